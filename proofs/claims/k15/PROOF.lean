import PyProof.Rows.All
import Wide.All
import OpenK.AllK
import Wide.FinOn
import KE.KStateDown
import HandS.ForMost
import HandS.More
import HandS.WordsExc
import HandS.Defaults
import HandS.Property
import HandS.Style
import HandS.NoneIn
import HandS.Small
import HandS.Zip
import HandS.DictComp
import HandS.TupAny
import HandS.Deep
import PyProof.NeData
import HandS.IsInst
import HandS.Conv
import HandS.Text
import HandS.MakeKwOnly
import HandS.Strs
import HandS.TupSets
import HandS.Head0
import HandS.Head1
import HandS.Head2
import HandS.HeadEnd
import HandS.HeadHook1
import HandS.HeadHook2
import HandS.Star
import KE.SortData
import KE.DataMinMax
import HandS.DictSubView
import HandS.Set
import HandS.SetTxt0
import HandS.SetFor
import HandS.Iter
import KE.KEqDict
import KE.KDictZip
import PyProof.TupleOfSeq
import HandS.Finally
import KE.SortCalls
import HandS.TupLe
import KE.KIndexWalk
import Lean
import PySem.Challenge.RW_roundways_k15_known_mixtures
set_option Elab.async false
set_option linter.all false
set_option maxRecDepth 100000
/-! Lite: a layer of plain data D over the hand layer: values that are read as data, lists and dicts of one's own, a thing that is drawn from. -/
namespace RW
open PySem L2
/-! ### data -/
inductive D where
  | non | bl (b : Bool) | int (i : Int) | str (x : Str) | lst (xs : List D) | tup (xs : List D) | dct (t : Bool) (kvs : List (D × D)) | obj (c : Nat) (fs : List (Str × D)) | res | scr (ns : List Int)
instance : Inhabited D := ⟨.non⟩
/-- what is drawn from: its states, its handle, where it stands -/
structure Rsc where
  S : Type
  ad : Addr
  foot : Addr → Prop
  At : S → Hp → Prop
  stay : ∀ {s : S} {H H' : Hp}, At s H → (∀ a, foot a → H' a = H a) → At s H'
  there : ∀ {s : S} {H : Hp} {a : Addr}, At s H → foot a → ∃ o, H a = some o ∧ ∀ xs, o ≠ .tup xs
structure G where
  K : PySem.W.Frag
  cls : Nat → Addr
  R : Rsc
def keyD : Key → D
  | .inl i => .int i
  | .inr x => .str x
/-- the tuples of the module that may be met (class 1000 says which: 1: a default's (), 2: the wishes) -/
def ktOk (n : Addr) : List D → Bool
  | [] => n == 1
  | _ => n == 2
def KTup (K : PySem.W.Frag) (a : Addr) (xs : List V) : Prop := ∃ (o : Obj) (its : Array Value) (n : Nat), K.lookup a = some o ∧ o.cls = .type "tuple" ∧ o.data = .seq its n ∧ its.size ≤ sizeLine ∧ Vals xs its.toList
mutual
inductive Rep (g : G) (F : Hp) : V → D → Prop
  | non : Rep g F .non .non
  | bl (b : Bool) : Rep g F (.bl b) (.bl b)
  | int (i : Int) : Rep g F (.int i) (.int i)
  | str (x : Str) : Rep g F (.str x) (.str x)
  | ref {a : Addr} {o : HO} {d : D} : F a = some o → RepO g F o d → Rep g F (.ref a) d
  | tup {a : Addr} {xs : List V} {ds : List D} : F a = some (.tup xs) → RepAll g F xs ds → Rep g F (.ref a) (.tup ds)
  | kt {a : Addr} {xs : List V} {ds : List D} : KTup g.K a xs → RepAll g F xs ds → ktOk (g.cls 1000) ds = true → Rep g F (.ref a) (.tup ds)
  | res : Rep g F (.ref g.R.ad) .res
  | kscr {a : Addr} {ns : List Int} : (∀ H, SqL g.K H a (ns.map V.int)) → Rep g F (.ref a) (.scr ns)
inductive RepO (g : G) (F : Hp) : HO → D → Prop
  | lst {xs : List V} {ds : List D} : RepAll g F xs ds → RepO g F (.lst xs) (.lst ds)
  | dK {kvs : List (Key × V)} {es : List (D × D)} : RepK g F kvs es → RepO g F (.dK kvs) (.dct false es)
  | dT {kvs : List (List Key × V)} {es : List (D × D)} : RepT g F kvs es → RepO g F (.dT kvs) (.dct true es)
  | ins {c : Nat} {dx : Addr} {fs : List (Str × V)} {ds : List (Str × D)} : RepF g F fs ds → RepO g F (.ins (g.cls c) dx fs) (.obj c ds)
  | scr {o : Obj} {ns : List Int} : RepO g F (.frz o (.lst (ns.map V.int))) (.scr ns)
inductive RepAll (g : G) (F : Hp) : List V → List D → Prop
  | nil : RepAll g F [] []
  | cons {v : V} {vs : List V} {d : D} {ds : List D} : Rep g F v d → RepAll g F vs ds → RepAll g F (v :: vs) (d :: ds)
inductive RepK (g : G) (F : Hp) : List (Key × V) → List (D × D) → Prop
  | nil : RepK g F [] []
  | cons {k : Key} {v : V} {kvs : List (Key × V)} {d : D} {es : List (D × D)} : Rep g F v d → RepK g F kvs es → RepK g F ((k, v) :: kvs) ((keyD k, d) :: es)
inductive RepT (g : G) (F : Hp) : List (List Key × V) → List (D × D) → Prop
  | nil : RepT g F [] []
  | cons {k : List Key} {v : V} {kvs : List (List Key × V)} {d : D} {es : List (D × D)} : Rep g F v d → RepT g F kvs es → RepT g F ((k, v) :: kvs) ((.tup (k.map keyD), d) :: es)
inductive RepF (g : G) (F : Hp) : List (Str × V) → List (Str × D) → Prop
  | nil : RepF g F [] []
  | cons {f : Str} {v : V} {fs : List (Str × V)} {d : D} {ds : List (Str × D)} : Rep g F v d → RepF g F fs ds → RepF g F ((f, v) :: fs) ((f, d) :: ds)
end
def Le (F F' : Hp) : Prop := ∀ a o, F a = some o → F' a = some o
theorem Le.refl (F : Hp) : Le F F := fun _ _ h => h
theorem Le.trans {F F1 F2 : Hp} (a : Le F F1) (b : Le F1 F2) : Le F F2 := fun x o h => b x o (a x o h)
section
variable {g : G} {F F' : Hp} (le : Le F F')
include le
mutual
theorem Rep.mono : ∀ {v d}, Rep g F v d → Rep g F' v d
  | _, _, .non => .non
  | _, _, .bl b => .bl b
  | _, _, .int i => .int i
  | _, _, .str x => .str x
  | _, _, .ref h o => .ref (le _ _ h) (RepO.mono o)
  | _, _, .tup h o => .tup (le _ _ h) (RepAll.mono o)
  | _, _, .kt h o n => .kt h (RepAll.mono o) n
  | _, _, .res => .res
  | _, _, .kscr h => .kscr h
theorem RepO.mono : ∀ {v d}, RepO g F v d → RepO g F' v d
  | _, _, .lst h => .lst (RepAll.mono h)
  | _, _, .dK h => .dK (RepK.mono h)
  | _, _, .dT h => .dT (RepT.mono h)
  | _, _, .ins h => .ins (RepF.mono h)
  | _, _, .scr => .scr
theorem RepAll.mono : ∀ {v d}, RepAll g F v d → RepAll g F' v d
  | _, _, .nil => .nil
  | _, _, .cons h t => .cons (Rep.mono h) (RepAll.mono t)
theorem RepK.mono : ∀ {v d}, RepK g F v d → RepK g F' v d
  | _, _, .nil => .nil
  | _, _, .cons h t => .cons (Rep.mono h) (RepK.mono t)
theorem RepT.mono : ∀ {v d}, RepT g F v d → RepT g F' v d
  | _, _, .nil => .nil
  | _, _, .cons h t => .cons (Rep.mono h) (RepT.mono t)
theorem RepF.mono : ∀ {v d}, RepF g F v d → RepF g F' v d
  | _, _, .nil => .nil
  | _, _, .cons h t => .cons (Rep.mono h) (RepF.mono t)
end
end
/-- no tuple: a thing that may be one's own -/
def NT (o : HO) : Prop := ∀ xs, o ≠ .tup xs
theorem RepO.nt {g : G} {F : Hp} {o : HO} {d : D} (h : RepO g F o d) : NT o := by
  cases h <;> exact fun _ z => nomatch z
def IsDict (o : HO) : Prop := (∃ kvs, o = .dK kvs) ∨ ∃ kvs, o = .dT kvs
/-- what is known of the heap for good; dicts may be locked -/
def Sub (F H : Hp) : Prop := ∀ a o, F a = some o → H a = some o ∨ (IsDict o ∧ ∃ ob, H a = some (.frz ob o))
/-- what may be read as data d -/
def Pk (g : G) (F H : Hp) (v : V) (d : D) : Prop := Rep g F v d ∨ ∃ p o, v = .ref p ∧ H p = some o ∧ RepO g F o d
structure Cell where
  d : D
  own : Bool
structure S (R : Type) where
  e : List (Option Cell)
  r : R
abbrev M (R α : Type) := S R → Option (α × S R)
/-- what an expression gives: data that are kept, a new list, dict or object, or what a slot owns -/
inductive Vr where
  | sh (d : D) | tmp (d : D) | sl (i : Nat)
def Own (σ : St) (e : List (Option Cell)) (a : Addr) : Prop := ∃ (i : Nat) (c : Cell), e[i]? = some (some c) ∧ c.own = true ∧ σ[i]? = some (some (.ref a))
def CellOk (g : G) (F H : Hp) (c : Cell) (v : V) : Prop :=
  (c.own = false ∧ Rep g F v c.d) ∨ (c.own = true ∧ ∃ p o, v = .ref p ∧ F p = none ∧ ¬ g.R.foot p ∧ H p = some o ∧ RepO g F o c.d)
structure Sim (g : G) (F : Hp) (s : S g.R.S) (σ : St) (H : Hp) : Prop where
  sub : Sub F H
  at_ : g.R.At s.r H
  foot : ∀ a, g.R.foot a → F a = none
  len : s.e.length = σ.length
  cell : ∀ (i : Nat) (c : Cell), s.e[i]? = some (some c) → ∃ v, σ[i]? = some (some v) ∧ CellOk g F H c v
  apart : ∀ (i j : Nat) (ci cj : Cell) (a : Addr), i ≠ j → s.e[i]? = some (some ci) → s.e[j]? = some (some cj) → ci.own = true → cj.own = true → σ[i]? = some (some (.ref a)) → σ[j]? ≠ some (some (.ref a))
/-- what a step leaves as it was -/
structure Keep (g : G) (F : Hp) (s : S g.R.S) (σ : St) (H : Hp) (F' : Hp) (s' : S g.R.S) (σ' : St) (H' : Hp) : Prop where
  heap : ∀ a o, H a = some o → ¬ Own σ s.e a → ¬ g.R.foot a → H' a = some o
  grow : Le F F'
  nof : ∀ a o, H a = some o → NT o → F a = none → ¬ Own σ s.e a → F' a = none
  own : ∀ a, Own σ' s'.e a → Own σ s.e a ∨ H a = none
  there : ∀ a o, H a = some o → ∃ o', H' a = some o'
theorem Keep.refl {g : G} {F : Hp} {s : S g.R.S} {σ : St} {H : Hp} : Keep g F s σ H F s σ H := ⟨fun _ _ h _ _ => h, Le.refl _, fun _ _ _ _ h _ => h, fun _ h => .inl h, fun _ o h => ⟨o, h⟩⟩
theorem Sim.own_at {g : G} {F : Hp} {s : S g.R.S} {σ : St} {H : Hp} (I : Sim g F s σ H) {a : Addr} (h : Own σ s.e a) : F a = none ∧ ¬ g.R.foot a ∧ ∃ o, H a = some o ∧ NT o := by
  obtain ⟨i, c, e1, e2, e3⟩ := h
  obtain ⟨v, e4, q⟩ := I.cell i c e1
  rw [e3] at e4
  cases e4
  rcases q with ⟨z, _⟩ | ⟨_, p, o, e, h1, h2, h3, h4⟩
  · rw [e2] at z; cases z
  · cases e
    exact ⟨h1, h2, o, h3, h4.nt⟩
theorem Keep.trans {g : G} {F F1 F2 : Hp} {s s1 s2 : S g.R.S} {σ σ1 σ2 : St} {H H1 H2 : Hp} (a : Keep g F s σ H F1 s1 σ1 H1) (b : Keep g F1 s1 σ1 H1 F2 s2 σ2 H2) (I2 : Sim g F2 s2 σ2 H2) : Keep g F s σ H F2 s2 σ2 H2 := by
  have no : ∀ x o, H x = some o → ¬ Own σ s.e x → ¬ Own σ1 s1.e x := fun x o h n z => by
    rcases a.own x z with z | z
    · exact n z
    · rw [h] at z; cases z
  refine ⟨fun x o h n nf => b.heap x o (a.heap x o h n nf) (no x o h n) nf, a.grow.trans b.grow, fun x o h nt hF n => ?_, fun x z => ?_, fun x o h => let ⟨o1, h1⟩ := a.there x o h; b.there x o1 h1⟩
  · by_cases nf : g.R.foot x
    · exact I2.foot x nf
    · exact b.nof x o (a.heap x o h n nf) nt (a.nof x o h nt hF n) (no x o h n)
  · have nf := (I2.own_at z).2.1
    rcases b.own x z with z | z
    · exact a.own x z
    · by_cases ho : Own σ s.e x
      · exact .inl ho
      · right
        cases q : H x with
        | none => rfl
        | some o => rw [a.heap x o q ho nf] at z; cases z
end RW
namespace RW
open PySem L2
/-! ### a step that only adds -/
structure Ext (F H F' H' : Hp) : Prop where
  le : Le F F'
  heap : ∀ a o, H a = some o → H' a = some o
  nof : ∀ a o, H a = some o → NT o → F a = none → F' a = none
  sub : Sub F' H'
theorem Ext.refl {F H : Hp} (h : Sub F H) : Ext F H F H := ⟨Le.refl _, fun _ _ h => h, fun _ _ _ _ h => h, h⟩
theorem upd_le {F : Hp} {p : Addr} {o : HO} (h : F p = none) : Le F (upd F p o) := fun a u e => by rw [upd_ne (ne_of_none e h)]; exact e
theorem Sub.free {F H : Hp} (h : Sub F H) {p : Addr} (e : H p = none) : F p = none := by
  cases q : F p with
  | none => rfl
  | some o => rcases h p o q with z | ⟨_, ob, z⟩ <;> (rw [e] at z; cases z)
/-- a new thing, kept for good -/
theorem Ext.new {F H : Hp} (h : Sub F H) {p : Addr} {o : HO} (e : H p = none) : Ext F H (upd F p o) (upd H p o) := by
  refine ⟨upd_le (h.free e), upd_le e, fun a u q _ r => ?_, fun a u q => ?_⟩
  · rw [upd_ne (ne_of_none q e)]; exact r
  · by_cases z : a = p
    · subst z; rw [upd_same] at q; cases q; exact .inl upd_same
    · rw [upd_ne z] at q
      rw [upd_ne z]; exact h a u q
/-- a new thing of one's own -/
theorem Ext.tmp {F H : Hp} (h : Sub F H) {p : Addr} {o : HO} (e : H p = none) : Ext F H F (upd H p o) := by
  refine ⟨Le.refl _, upd_le e, fun _ _ _ _ r => r, fun a u q => ?_⟩
  have z : a ≠ p := fun z => by rw [z, h.free e] at q; cases q
  rw [upd_ne z]; exact h a u q
theorem Ext.trans {F H F1 H1 F2 H2 : Hp} (a : Ext F H F1 H1) (b : Ext F1 H1 F2 H2) : Ext F H F2 H2 :=
  ⟨a.le.trans b.le, fun x o h => b.heap x o (a.heap x o h), fun x o h nt r => b.nof x o (a.heap x o h) nt (a.nof x o h nt r), b.sub⟩
section
variable {g : G} {F F' : Hp} {s s' : S g.R.S} {σ : St} {H H' : Hp}
theorem CellOk.ext {c : Cell} {v : V} (h : CellOk g F H c v) (x : Ext F H F' H') : CellOk g F' H' c v := by
  rcases h with ⟨a, b⟩ | ⟨a, p, o, b1, b2, b3, b4, b5⟩
  · exact .inl ⟨a, b.mono x.le⟩
  · exact .inr ⟨a, p, o, b1, x.nof _ _ b4 b5.nt b2, b3, x.heap _ _ b4, b5.mono x.le⟩
theorem Sim.nofoot (I : Sim g F s σ H) {a : Addr} (h : H a = none) : ¬ g.R.foot a := fun z => by
  obtain ⟨o, e, _⟩ := g.R.there I.at_ z
  rw [h] at e; cases e
theorem Sim.ext (I : Sim g F s σ H) (x : Ext F H F' H') : Sim g F' s σ H' := by
  refine ⟨x.sub, g.R.stay I.at_ fun a ha => ?_, fun a ha => ?_, I.len, fun i c e => ?_, I.apart⟩
  · obtain ⟨o, e, _⟩ := g.R.there I.at_ ha
    rw [e]; exact x.heap a o e
  · obtain ⟨o, e, nt⟩ := g.R.there I.at_ ha
    exact x.nof a o e nt (I.foot a ha)
  · obtain ⟨v, e1, q⟩ := I.cell i c e
    exact ⟨v, e1, q.ext x⟩
theorem Keep.ext (x : Ext F H F' H') : Keep g F s σ H F' s σ H' := ⟨fun a o h _ _ => x.heap a o h, x.le, fun a o h nt r _ => x.nof a o h nt r, fun _ h => .inl h, fun a o h => ⟨o, x.heap a o h⟩⟩
/-! ### what an expression gives -/
def VOk (g : G) (F : Hp) (s : S g.R.S) (σ : St) (H0 H : Hp) : Vr → V → Prop
  | .sh d, v => Rep g F v d
  | .tmp d, v => ∃ p o, v = .ref p ∧ H0 p = none ∧ F p = none ∧ ¬ g.R.foot p ∧ ¬ Own σ s.e p ∧ H p = some o ∧ RepO g F o d
  | .sl i, v => σ[i]? = some (some v)
def tM (g : G) (m : M g.R.S Vr) : TE := fun σ H Q => ∃ F s res s', Sim g F s σ H ∧ m s = some (res, s') ∧
  ∀ F' v H', Sim g F' s' σ H' → Keep g F s σ H F' s' σ H' → VOk g F' s' σ H H' res v → Q v H'
def DE (g : G) (X : Cx) (e : Expr) (m : M g.R.S Vr) : Prop := PE X e (tM g m)
theorem PE.imp {X : Cx} {e : Expr} {t t' : TE} (h : PE X e t) (w : ∀ σ H Q, t' σ H Q → t σ H Q) : PE X e t' := ⟨fun pins s σ H Q I q => h.run pins s σ H Q I (w _ _ _ q)⟩
def soft : Vr → Vr
  | .tmp d => .sh d
  | r => r
/-- what is given, softened: kept data, or a slot -/
def WOk (g : G) (F : Hp) (σ : St) : Vr → V → Prop
  | .sh d, v => Rep g F v d
  | .tmp _, _ => False
  | .sl i, v => σ[i]? = some (some v)
theorem VOk.soft {H0 : Hp} {r : Vr} {v : V} {F0 : Hp} {s0 : S g.R.S} (I : Sim g F s σ H) (k : Keep g F0 s0 σ H0 F s σ H) (h : VOk g F s σ H0 H r v) : ∃ F', Sim g F' s σ H ∧ Keep g F0 s0 σ H0 F' s σ H ∧ WOk g F' σ (soft r) v := by
  cases r with
  | sh d => exact ⟨F, I, k, h⟩
  | sl i => exact ⟨F, I, k, h⟩
  | tmp d =>
    obtain ⟨p, o, rfl, h0, h1, h2, h3, h4, h5⟩ := h
    have le : Le F (upd F p o) := upd_le h1
    refine ⟨upd F p o, ⟨fun a u q => ?_, I.at_, fun a ha => ?_, I.len, fun i c e => ?_, I.apart⟩, ⟨k.heap, k.grow.trans le, fun a u q nt r n => ?_, k.own, k.there⟩, .ref upd_same (h5.mono le)⟩
    · by_cases z : a = p
      · subst z; rw [upd_same] at q; cases q; exact .inl h4
      · rw [upd_ne z] at q; exact I.sub a u q
    · rw [upd_ne (fun (z : a = p) => h2 (by rw [← z]; exact ha))]; exact I.foot a ha
    · obtain ⟨v, e1, q⟩ := I.cell i c e
      refine ⟨v, e1, ?_⟩
      rcases q with ⟨a, b⟩ | ⟨a, p', o', b1, b2, b3, b4, b5⟩
      · exact .inl ⟨a, b.mono le⟩
      · refine .inr ⟨a, p', o', b1, ?_, b3, b4, b5.mono le⟩
        rw [upd_ne (fun z => h3 ⟨i, c, e, a, by rw [e1, b1, z]⟩)]; exact b2
    · rw [upd_ne (fun z => by rw [z, h0] at q; cases q)]; exact k.nof a u q nt r n
theorem WOk.keep {F1 : Hp} {r : Vr} {v : V} (h : WOk g F σ r v) (le : Le F F1) : WOk g F1 σ r v := by
  cases r with
  | sh d => exact Rep.mono le h
  | sl i => exact h
  | tmp d => exact h
def pk {R : Type} : Vr → S R → Option D
  | .sh d, _ => some d
  | .tmp d, _ => some d
  | .sl i, s => match s.e[i]? with
    | some (some c) => some c.d
    | _ => none
theorem WOk.pk {r : Vr} {v : V} {d : D} (I : Sim g F s σ H) (h : WOk g F σ r v) (e : pk r s = some d) : Pk g F H v d := by
  cases r with
  | sh d' => cases e; exact .inl h
  | tmp d' => exact h.elim
  | sl i =>
    have h : σ[i]? = some (some v) := h
    have e : (match s.e[i]? with | some (some c) => some c.d | _ => none) = some d := e
    cases ec : s.e[i]? with
    | none => rw [ec] at e; cases e
    | some oc =>
      cases oc with
      | none => rw [ec] at e; cases e
      | some c =>
        rw [ec] at e
        cases e
        obtain ⟨v', e1, q⟩ := I.cell i c ec
        rw [h] at e1; cases e1
        rcases q with ⟨_, b⟩ | ⟨_, p, o, b1, _, _, b4, b5⟩
        · exact .inl b
        · exact .inr ⟨p, o, b1, b4, b5⟩
/-- what is to be shown of a value that an operation gives -/
def Fin (g : G) (F H : Hp) : Vr → VK → Prop
  | .sh d, Q => ∀ F' v H', Ext F H F' H' → Rep g F' v d → Q v H'
  | .tmp d, Q => ∀ F' p o H', Ext F H F' H' → H p = none → F' p = none → H' p = some o → RepO g F' o d → Q (.ref p) H'
  | .sl _, _ => False
theorem fin_of {z : Vr} {Q : VK} {F0 : Hp} {s0 : S g.R.S} {H0 : Hp} (I : Sim g F s σ H) (k : Keep g F0 s0 σ H0 F s σ H) (hz : ∀ i, z ≠ .sl i)
    (h : ∀ F' v H', Sim g F' s σ H' → Keep g F0 s0 σ H0 F' s σ H' → VOk g F' s σ H0 H' z v → Q v H') : Fin g F H z Q := by
  cases z with
  | sl i => exact (hz i rfl).elim
  | sh d => exact fun F' v H' x r => h F' v H' (I.ext x) (k.trans (Keep.ext x) (I.ext x)) r
  | tmp d =>
    intro F' p o H' x hp hF hH r
    have I' := I.ext x
    have nown : ¬ Own σ s.e p := fun z => by
      obtain ⟨o, e, _⟩ := (I.own_at z).2.2
      rw [hp] at e; cases e
    refine h F' (.ref p) H' I' (k.trans (Keep.ext x) I') ⟨p, o, rfl, ?_, hF, I.nofoot hp, nown, hH, r⟩
    cases q : H0 p with
    | none => rfl
    | some u =>
      obtain ⟨o', e⟩ := k.there p u q
      rw [hp] at e; cases e
end
end RW
namespace RW
open PySem L2
section
variable {g : G} {X : Cx}
/-! ### tests -/
def tMB (g : G) (m : M g.R.S Vr) : TT := fun σ H Q => ∃ F s b s', Sim g F s σ H ∧ m s = some (.sh (.bl b), s') ∧ ∀ F' H', Sim g F' s' σ H' → Keep g F s σ H F' s' σ H' → Q b H'
def DT (g : G) (X : Cx) (e : Expr) (m : M g.R.S Vr) : Prop := PT X e (tMB g m)
def DW (g : G) (X : Cx) (e : Expr) (m : M g.R.S Vr) : Prop := PW X e (tMB g m)
theorem PT.imp {X : Cx} {e : Expr} {t t' : TT} (h : PT X e t) (w : ∀ σ H Q, t' σ H Q → t σ H Q) : PT X e t' := ⟨fun pins s σ H Q I q => h.run pins s σ H Q I (w _ _ _ q)⟩
theorem PW.imp {X : Cx} {e : Expr} {t t' : TT} (h : PW X e t) (w : ∀ σ H Q, t' σ H Q → t σ H Q) : PW X e t' := ⟨fun wh pins s σ H Q I q => h.run wh pins s σ H Q I (w _ _ _ q)⟩
theorem DW.t {e : Expr} {m : M g.R.S Vr} (h : DW g X e m) : DT g X e m := L2.PW.pt h
/-- from a value's reading to a test's -/
theorem tTest_of {m : M g.R.S Vr} {t : TE} (w : ∀ σ H Q, tM g m σ H Q → t σ H Q) {σ : St} {H : Hp} {Q : Bool → Hp → Prop} (h : tMB g m σ H Q) : t σ H fun x H' => ∃ k, x = .bl k ∧ Q k H' := by
  obtain ⟨F, s, b, s', I, e, k⟩ := h
  refine w _ _ _ ⟨F, s, _, s', I, e, fun F' v H' I' K' r => ?_⟩
  have r : Rep g F' v (.bl b) := r
  cases r with
  | bl => exact ⟨b, rfl, k F' H' I' K'⟩
  | ref _ z => cases z
/-! ### names and constants -/
def mV {R : Type} (i : Nat) : M R Vr := fun s => match s.e[i]? with
  | some (some c) => some (if c.own then .sl i else .sh c.d, s)
  | _ => none
def mC {R : Type} (d : D) : M R Vr := fun s => some (.sh d, s)
theorem d_var {e : Expr} {i : Nat} (h : PE X e (tVar i)) : DE g X e (mV i) := by
  refine PE.imp h fun σ H Q ⟨F, s, res, s', I, e, k⟩ => ?_
  unfold mV at e
  split at e
  · rename_i c ec
    cases e
    obtain ⟨v, e1, q⟩ := I.cell i c ec
    refine ⟨v, e1, k F v H I Keep.refl ?_⟩
    cases ho : c.own with
    | true => exact e1
    | false =>
      rcases q with ⟨_, q⟩ | ⟨z, _⟩
      · exact q
      · rw [ho] at z; cases z
  · cases e
theorem d_c {e : Expr} {v : V} {d : D} (h : PE X e (tC v)) (r : ∀ F, Rep g F v d) : DE g X e (mC d) := by
  refine PE.imp h fun σ H Q ⟨F, s, res, s', I, e, k⟩ => ?_
  cases e
  exact k F v H I Keep.refl (r F)
theorem d_int {i j pos} : DE g X (.Constant (.int i) j pos) (mC (.int i)) := d_c pe_int fun _ => .int _
theorem d_bl {b j pos} : DE g X (.Constant (.bool b) j pos) (mC (.bl b)) := d_c pe_bl fun _ => .bl _
theorem d_non {j pos} : DE g X (.Constant .none j pos) (mC .non) := d_c pe_non fun _ => .non
theorem d_str {x j pos} : DE g X (.Constant (.str x) j pos) (mC (.str x)) := d_c pe_str fun _ => .str _
theorem d_gint {x : Str} {i : Int} {t : Tok} {pos : Pos} (hg : Gl X x) (hm : X.mg x = some (.int i t)) (hd : (x == ("__debug__" : Str)) = false := by decide) : DE g X (.Name x pos) (mC (.int i)) := d_c (pe_glob hg hm (v := .int i) ⟨t, rfl⟩ hd) fun _ => .int _
theorem d_gstr {x z : Str} {t : Tok} {pos : Pos} (hg : Gl X x) (hm : X.mg x = some (.str z t)) (hd : (x == ("__debug__" : Str)) = false := by decide) : DE g X (.Name x pos) (mC (.str z)) := d_c (pe_glob hg hm (v := .str z) ⟨t, rfl⟩ hd) fun _ => .str _
/-! ### operations upon values -/
structure Op1 (g : G) (f : D → Option Vr) (r : V → Hp → VK → Prop) : Prop where
  no : ∀ x z, f x = some z → ∀ i, z ≠ .sl i
  ok : ∀ F H x dx z Q, Sub F H → Pk g F H x dx → f dx = some z → Fin g F H z Q → r x H Q
structure Op2 (g : G) (f : D → D → Option Vr) (r : R2) : Prop where
  no : ∀ x y z, f x y = some z → ∀ i, z ≠ .sl i
  ok : ∀ F H x y dx dy z Q, Sub F H → Pk g F H x dx → Pk g F H y dy → f dx dy = some z → Fin g F H z Q → r x y H Q
def mOp1 {R : Type} (f : D → Option Vr) (ma : M R Vr) : M R Vr := fun s => (ma s).bind fun p => (pk (soft p.1) p.2).bind fun x => (f x).map fun z => (z, p.2)
def mOp2 {R : Type} (f : D → D → Option Vr) (ma mb : M R Vr) : M R Vr := fun s =>
  (ma s).bind fun p => (mb p.2).bind fun q => (pk (soft p.1) q.2).bind fun x => (pk (soft q.1) q.2).bind fun y => (f x y).map fun z => (z, q.2)
/-- one value, softened -/
theorem tM_soft {m : M g.R.S Vr} {σ : St} {H : Hp} {Q : VK} {F : Hp} {s s' : S g.R.S} {res : Vr} (I : Sim g F s σ H) (e : m s = some (res, s'))
    (h : ∀ F' v H', Sim g F' s' σ H' → Keep g F s σ H F' s' σ H' → WOk g F' σ (soft res) v → Q v H') : tM g m σ H Q := by
  refine ⟨F, s, res, s', I, e, fun F' v H' I' K' r => ?_⟩
  obtain ⟨F2, I2, K2, w⟩ := r.soft I' K'
  exact h F2 v H' I2 K2 w
theorem tOp1_of {f : D → Option Vr} {r : V → Hp → VK → Prop} (ok : Op1 g f r) {ma : M g.R.S Vr} {σ : St} {H : Hp} {Q : VK} (h : tM g (mOp1 f ma) σ H Q) : tM g ma σ H fun x H1 => r x H1 Q := by
  obtain ⟨F, s, res, s', I, e, k⟩ := h
  unfold mOp1 at e
  obtain ⟨p, e1, e⟩ := Option.bind_eq_some_iff.mp e
  obtain ⟨x, e2, e⟩ := Option.bind_eq_some_iff.mp e
  obtain ⟨z, e3, e⟩ := Option.map_eq_some_iff.mp e
  cases e
  refine tM_soft I e1 fun F1 v H1 I1 K1 w => ?_
  exact ok.ok F1 H1 v x res Q I1.sub (w.pk I1 e2) e3 (fin_of I1 K1 (ok.no _ _ e3) k)
theorem tOp2_of {f : D → D → Option Vr} {r : R2} (ok : Op2 g f r) {ma mb : M g.R.S Vr} {σ : St} {H : Hp} {Q : VK} (h : tM g (mOp2 f ma mb) σ H Q) : tOp r (tM g ma) (tM g mb) σ H Q := by
  obtain ⟨F, s, res, s', I, e, k⟩ := h
  unfold mOp2 at e
  obtain ⟨p, e1, e⟩ := Option.bind_eq_some_iff.mp e
  obtain ⟨q, e2, e⟩ := Option.bind_eq_some_iff.mp e
  obtain ⟨x, e3, e⟩ := Option.bind_eq_some_iff.mp e
  obtain ⟨y, e4, e⟩ := Option.bind_eq_some_iff.mp e
  obtain ⟨z, e5, e⟩ := Option.map_eq_some_iff.mp e
  cases e
  refine tM_soft I e1 fun F1 v H1 I1 K1 w1 => tM_soft I1 e2 fun F2 u H2 I2 K2 w2 => ?_
  exact ok.ok F2 H2 v u x y res Q I2.sub ((w1.keep K2.grow).pk I2 e3) (w2.pk I2 e4) e5 (fin_of I2 (K1.trans K2 I2) (ok.no _ _ _ e5) k)
theorem d_bin {op : Operator} {r : R2} {f : D → D → Option Vr} {a b : Expr} {ma mb : M g.R.S Vr} {pos : Pos} (ho : OpR X (binaryOp op) r) (ok : Op2 g f r) (ha : DE g X a ma) (hb : DE g X b mb) : DE g X (.BinOp a op b pos) (mOp2 f ma mb) :=
  PE.imp (pe_op ho ha hb) fun _ _ _ h => tOp2_of ok h
theorem d_un {op : UnaryOp} {r : V → Hp → VK → Prop} {f : D → Option Vr} {a : Expr} {ma : M g.R.S Vr} {pos : Pos} (ho : UnR X (unaryOp op) r) (ok : Op1 g f r) (ha : DE g X a ma) : DE g X (.UnaryOp op a pos) (mOp1 f ma) :=
  PE.imp (pe_un ho ha) fun _ _ _ h => tOp1_of ok h
theorem d_cmp {op : CmpOp} {r : R2} {f : D → D → Option Vr} {a b : Expr} {ma mb : M g.R.S Vr} {pos : Pos} (ho : OpR X (compareOp op) r) (ok : Op2 g f r) (ha : DE g X a ma) (hb : DE g X b mb) (hm : behindInMarks op b = false) : DE g X (.Compare a [op] [b] pos) (mOp2 f ma mb) :=
  PE.imp (pe_cmpR ho ha hb hm) fun _ _ _ h => tOp2_of ok h
theorem t_cmp {op : CmpOp} {r : R2} {f : D → D → Option Vr} {a b : Expr} {ma mb : M g.R.S Vr} {pos : Pos} (ho : OpR X (compareOp op) r) (ok : Op2 g f r) (ha : DE g X a ma) (hb : DE g X b mb) (hm : behindInMarks op b = false) : DT g X (.Compare a [op] [b] pos) (mOp2 f ma mb) :=
  PT.imp (pt_cmpR ho ha hb hm) fun _ _ _ h => tTest_of (fun _ _ _ h => tOp2_of ok h) h
/-- a value that is a bool, as a test -/
theorem t_val {e : Expr} {m : M g.R.S Vr} (h : DE g X e m) (he : ∀ whole, isTrue e X.env whole = (do let v ← whole; standAt e.pos; holding [v] (truthy v)) := by intro _; rfl) : DT g X e m :=
  PT.imp (pt_val h he) fun _ _ _ q => tTest_of (fun _ _ _ h => h) q
/-! a op1 b op2 c -/
def mChain {R : Type} (f f' : D → D → Option Vr) (ma mb mc : M R Vr) : M R Vr := fun s =>
  (ma s).bind fun p => (mb p.2).bind fun q => (pk (soft p.1) q.2).bind fun x => (pk (soft q.1) q.2).bind fun y => match f x y with
    | some (.sh (.bl true)) => (mc q.2).bind fun u => (pk (soft q.1) u.2).bind fun y' => (pk (soft u.1) u.2).bind fun z => (f' y' z).map fun w => (w, u.2)
    | some (.sh (.bl false)) => some (.sh (.bl false), q.2)
    | _ => none
theorem tChain_of {f f' : D → D → Option Vr} {r r' : R2} (ok : Op2 g f r) (ok' : Op2 g f' r') {ma mb mc : M g.R.S Vr} {σ : St} {H : Hp} {Q : VK} (h : tM g (mChain f f' ma mb mc) σ H Q) : tChain r r' (tM g ma) (tM g mb) (tM g mc) σ H Q := by
  obtain ⟨F, s, res, s', I, e, k⟩ := h
  unfold mChain at e
  obtain ⟨p, e1, e⟩ := Option.bind_eq_some_iff.mp e
  obtain ⟨q, e2, e⟩ := Option.bind_eq_some_iff.mp e
  obtain ⟨x, e3, e⟩ := Option.bind_eq_some_iff.mp e
  obtain ⟨y, e4, e⟩ := Option.bind_eq_some_iff.mp e
  refine tM_soft I e1 fun F1 v H1 I1 K1 w1 => tM_soft I1 e2 fun F2 u H2 I2 K2 w2 => ?_
  have K12 := K1.trans K2 I2
  cases e5 : f x y with
  | none => rw [e5] at e; cases e
  | some z =>
    rw [e5] at e
    cases z with
    | tmp _ => cases e
    | sl _ => cases e
    | sh d =>
      cases d with
      | bl b =>
        refine ok.ok F2 H2 v u x y (.sh (.bl b)) _ I2.sub ((w1.keep K2.grow).pk I2 e3) (w2.pk I2 e4) e5 (show Fin g F2 H2 (.sh (.bl b)) _ from fun F3 v3 H3 x3 r3 => ?_)
        have hb : v3 = .bl b := by
          cases r3 with
          | bl => rfl
          | ref _ z => cases z
        subst hb
        have I3 := I2.ext x3
        have K3 := K12.trans (Keep.ext x3) I3
        refine ⟨b, rfl, ?_⟩
        cases b with
        | false =>
          rw [if_neg Bool.false_ne_true]
          cases e
          exact k F3 _ H3 I3 K3 (.bl false)
        | true =>
          rw [if_pos rfl]
          obtain ⟨u', e6, e⟩ := Option.bind_eq_some_iff.mp e
          obtain ⟨y', e7, e⟩ := Option.bind_eq_some_iff.mp e
          obtain ⟨z', e8, e⟩ := Option.bind_eq_some_iff.mp e
          obtain ⟨w', e9, e⟩ := Option.map_eq_some_iff.mp e
          cases e
          refine tM_soft I3 e6 fun F4 v4 H4 I4 K4 w4 => ?_
          exact ok'.ok F4 H4 u v4 y' z' res Q I4.sub (((w2.keep x3.le).keep K4.grow).pk I4 e7) (w4.pk I4 e8) e9 (fin_of I4 (K3.trans K4 I4) (ok'.no _ _ _ e9) k)
      | _ => cases e
theorem d_chain {op op' : CmpOp} {r r' : R2} {f f' : D → D → Option Vr} {a b c : Expr} {ma mb mc : M g.R.S Vr} {pos : Pos} (ho : OpR X (compareOp op) r) (ok : Op2 g f r) (ho' : OpR X (compareOp op') r') (ok' : Op2 g f' r') (ha : DE g X a ma) (hb : DE g X b mb) (hc : DE g X c mc)
    (hm : lastMarks [op, op'] [b, c] = false := by with_unfolding_all rfl) : DE g X (.Compare a [op, op'] [b, c] pos) (mChain f f' ma mb mc) := PE.imp (pe_chain ho ho' ha hb hc hm) fun _ _ _ h => tChain_of ok ok' h
/-! ### and, or, not, if -/
def mAnd {R : Type} (ma mb : M R Vr) : M R Vr := fun s => (ma s).bind fun p => match p.1 with
  | .sh (.bl true) => mb p.2
  | .sh (.bl false) => some (.sh (.bl false), p.2)
  | _ => none
def mOr {R : Type} (ma mb : M R Vr) : M R Vr := fun s => (ma s).bind fun p => match p.1 with
  | .sh (.bl true) => some (.sh (.bl true), p.2)
  | .sh (.bl false) => mb p.2
  | _ => none
def mNot {R : Type} (ma : M R Vr) : M R Vr := fun s => (ma s).bind fun p => match p.1 with
  | .sh (.bl b) => some (.sh (.bl (!b)), p.2)
  | _ => none
def mIf {R : Type} (mc ma mb : M R Vr) : M R Vr := fun s => (mc s).bind fun p => match p.1 with
  | .sh (.bl true) => ma p.2
  | .sh (.bl false) => mb p.2
  | _ => none
/-- the first part of such a thing is a bool -/
theorem first_bl {α : Type} {F : Vr → S g.R.S → Option α} {ma : M g.R.S Vr} {s : S g.R.S} {x : α} (e : ((ma s).bind fun p => F p.1 p.2) = some x) (h : ∀ v s', F v s' = some x → ∃ b, v = .sh (.bl b)) : ∃ b s', ma s = some (.sh (.bl b), s') ∧ F (.sh (.bl b)) s' = some x := by
  obtain ⟨⟨v, s'⟩, e1, e2⟩ := Option.bind_eq_some_iff.mp e
  obtain ⟨b, rfl⟩ := h v s' e2
  exact ⟨b, s', e1, e2⟩
theorem mAnd_inv {ma mb : M g.R.S Vr} {s : S g.R.S} {x : Vr × S g.R.S} (e : mAnd ma mb s = some x) : ∃ b s', ma s = some (.sh (.bl b), s') ∧ (if b = true then mb s' = some x else (Vr.sh (.bl false), s') = x) := by
  obtain ⟨b, s', e1, e2⟩ := first_bl (F := fun v s' => match v with
    | .sh (.bl true) => mb s'
    | .sh (.bl false) => some (.sh (.bl false), s')
    | _ => none) (ma := ma) (s := s) e (fun v s' h => by
      cases v with
      | sh d => cases d with
        | bl b => exact ⟨b, rfl⟩
        | _ => cases h
      | _ => cases h)
  refine ⟨b, s', e1, ?_⟩
  cases b with
  | true => exact e2
  | false => exact Option.some.inj e2
theorem mOr_inv {ma mb : M g.R.S Vr} {s : S g.R.S} {x : Vr × S g.R.S} (e : mOr ma mb s = some x) : ∃ b s', ma s = some (.sh (.bl b), s') ∧ (if b = true then (Vr.sh (.bl true), s') = x else mb s' = some x) := by
  obtain ⟨b, s', e1, e2⟩ := first_bl (F := fun v s' => match v with
    | .sh (.bl true) => some (.sh (.bl true), s')
    | .sh (.bl false) => mb s'
    | _ => none) (ma := ma) (s := s) e (fun v s' h => by
      cases v with
      | sh d => cases d with
        | bl b => exact ⟨b, rfl⟩
        | _ => cases h
      | _ => cases h)
  refine ⟨b, s', e1, ?_⟩
  cases b with
  | true => exact Option.some.inj e2
  | false => exact e2
theorem mIf_inv {mc ma mb : M g.R.S Vr} {s : S g.R.S} {x : Vr × S g.R.S} (e : mIf mc ma mb s = some x) : ∃ b s', mc s = some (.sh (.bl b), s') ∧ (if b = true then ma s' = some x else mb s' = some x) := by
  obtain ⟨b, s', e1, e2⟩ := first_bl (F := fun v s' => match v with
    | .sh (.bl true) => ma s'
    | .sh (.bl false) => mb s'
    | _ => none) (ma := mc) (s := s) e (fun v s' h => by
      cases v with
      | sh d => cases d with
        | bl b => exact ⟨b, rfl⟩
        | _ => cases h
      | _ => cases h)
  refine ⟨b, s', e1, ?_⟩
  cases b with
  | true => exact e2
  | false => exact e2
theorem mNot_inv {ma : M g.R.S Vr} {s : S g.R.S} {x : Vr × S g.R.S} (e : mNot ma s = some x) : ∃ b s', ma s = some (.sh (.bl b), s') ∧ (Vr.sh (.bl (!b)), s') = x := by
  obtain ⟨b, s', e1, e2⟩ := first_bl (F := fun v s' => match v with
    | .sh (.bl b) => some (Vr.sh (.bl (!b)), s')
    | _ => none) (ma := ma) (s := s) (x := x) e (fun v s' h => by
      cases v with
      | sh d => cases d with
        | bl b => exact ⟨b, rfl⟩
        | _ => cases h
      | _ => cases h)
  exact ⟨b, s', e1, Option.some.inj e2⟩
theorem tM_bl {ma : M g.R.S Vr} {σ : St} {H : Hp} {Q : VK} {F : Hp} {s s' : S g.R.S} {b : Bool} (I : Sim g F s σ H) (e : ma s = some (.sh (.bl b), s')) (k : ∀ F' H', Sim g F' s' σ H' → Keep g F s σ H F' s' σ H' → Q (.bl b) H') : tM g ma σ H Q := by
  refine ⟨F, s, _, s', I, e, fun F' v H' I' K' r => ?_⟩
  have r : Rep g F' v (.bl b) := r
  cases r with
  | bl => exact k F' H' I' K'
  | ref _ z => cases z
theorem VOk.base {F F1 F' : Hp} {s s1 s' : S g.R.S} {σ σ1 : St} {H H1 H' : Hp} {res : Vr} {v : V} (K1 : Keep g F s σ1 H F1 s1 σ H1) (r : VOk g F' s' σ H1 H' res v) : VOk g F' s' σ H H' res v := by
  cases res with
  | tmp d =>
    obtain ⟨p, o, rfl, h0, h⟩ := r
    refine ⟨p, o, rfl, ?_, h⟩
    cases q : H p with
    | none => rfl
    | some u => obtain ⟨o', e⟩ := K1.there p u q; rw [h0] at e; cases e
  | sh d => exact r
  | sl i => exact r
theorem tM_tail {m : M g.R.S Vr} {F F1 : Hp} {s s1 s' : S g.R.S} {σ : St} {H H1 : Hp} {res : Vr} {Q : VK} (I1 : Sim g F1 s1 σ H1) (K1 : Keep g F s σ H F1 s1 σ H1) (e : m s1 = some (res, s'))
    (k : ∀ F' v H', Sim g F' s' σ H' → Keep g F s σ H F' s' σ H' → VOk g F' s' σ H H' res v → Q v H') : tM g m σ H1 Q :=
  ⟨F1, s1, res, s', I1, e, fun F' v H' I' K' r => k F' v H' I' (K1.trans K' I') (r.base K1)⟩
theorem d_one {op} {a : Expr} {ma : M g.R.S Vr} {pos : Pos} (h : DE g X a ma) : DE g X (.BoolOp op [a] pos) ma := pe_one h
theorem d_and {a b : Expr} {rest : List Expr} {ma mb : M g.R.S Vr} {pos : Pos} (ha : DE g X a ma) (hb : DE g X (.BoolOp .And (b :: rest) pos) mb) : DE g X (.BoolOp .And (a :: b :: rest) pos) (mAnd ma mb) := by
  refine PE.imp (pe_and ha hb) fun σ H Q ⟨F, s, res, s', I, e, k⟩ => ?_
  obtain ⟨c, s1, e1, e2⟩ := mAnd_inv e
  refine tM_bl I e1 fun F1 H1 I1 K1 => ⟨c, rfl, ?_⟩
  cases c with
  | true => exact tM_tail I1 K1 e2 k
  | false =>
    have e2 : (Vr.sh (.bl false), s1) = (res, s') := e2
    cases e2
    exact k F1 _ H1 I1 K1 (.bl false)
theorem d_or {a b : Expr} {rest : List Expr} {ma mb : M g.R.S Vr} {pos : Pos} (ha : DE g X a ma) (hb : DE g X (.BoolOp .Or (b :: rest) pos) mb) : DE g X (.BoolOp .Or (a :: b :: rest) pos) (mOr ma mb) := by
  refine PE.imp (pe_or ha hb) fun σ H Q ⟨F, s, res, s', I, e, k⟩ => ?_
  obtain ⟨c, s1, e1, e2⟩ := mOr_inv e
  refine tM_bl I e1 fun F1 H1 I1 K1 => ⟨c, rfl, ?_⟩
  cases c with
  | false => exact tM_tail I1 K1 e2 k
  | true =>
    have e2 : (Vr.sh (.bl true), s1) = (res, s') := e2
    cases e2
    exact k F1 _ H1 I1 K1 (.bl true)
theorem d_not {a : Expr} {ma : M g.R.S Vr} {pos : Pos} (ha : DE g X a ma) : DE g X (.UnaryOp .Not a pos) (mNot ma) := by
  refine PE.imp (pe_not ha) fun σ H Q ⟨F, s, res, s', I, e, k⟩ => ?_
  obtain ⟨c, s1, e1, e2⟩ := mNot_inv e
  cases e2
  exact tM_bl I e1 fun F1 H1 I1 K1 => ⟨c, rfl, k F1 _ H1 I1 K1 (.bl _)⟩
theorem d_if {c a b : Expr} {mc ma mb : M g.R.S Vr} {pos : Pos} (hc : DT g X c mc) (ha : DE g X a ma) (hb : DE g X b mb) : DE g X (.IfExp c a b pos) (mIf mc ma mb) := by
  refine PE.imp (pe_ifExp hc ha hb) fun σ H Q ⟨F, s, res, s', I, e, k⟩ => ?_
  obtain ⟨c, s1, e1, e2⟩ := mIf_inv e
  refine ⟨F, s, c, s1, I, e1, fun F1 H1 I1 K1 => ?_⟩
  cases c with
  | true => exact tM_tail I1 K1 e2 k
  | false => exact tM_tail I1 K1 e2 k
/-! as tests -/
theorem w_one_and {a : Expr} {ma : M g.R.S Vr} {pos : Pos} (h : DT g X a ma) : DW g X (.BoolOp .And [a] pos) ma := pw_and1 h
theorem w_one_or {a : Expr} {ma : M g.R.S Vr} {pos : Pos} (h : DT g X a ma) : DW g X (.BoolOp .Or [a] pos) ma := pw_or1 h
theorem w_and {a b : Expr} {rest : List Expr} {ma mb : M g.R.S Vr} {pos : Pos} (ha : DT g X a ma) (hb : DW g X (.BoolOp .And (b :: rest) pos) mb) : DW g X (.BoolOp .And (a :: b :: rest) pos) (mAnd ma mb) := by
  refine PW.imp (pw_and ha hb) fun σ H Q ⟨F, s, b, s', I, e, k⟩ => ?_
  obtain ⟨c, s1, e1, e2⟩ := mAnd_inv e
  refine ⟨F, s, c, s1, I, e1, fun F1 H1 I1 K1 => ?_⟩
  cases c with
  | true => exact ⟨F1, s1, b, s', I1, e2, fun F' H' I' K' => k F' H' I' (K1.trans K' I')⟩
  | false =>
    have e2 : (Vr.sh (.bl false), s1) = (.sh (.bl b), s') := e2
    cases e2
    exact k F1 H1 I1 K1
theorem w_or {a b : Expr} {rest : List Expr} {ma mb : M g.R.S Vr} {pos : Pos} (ha : DT g X a ma) (hb : DW g X (.BoolOp .Or (b :: rest) pos) mb) : DW g X (.BoolOp .Or (a :: b :: rest) pos) (mOr ma mb) := by
  refine PW.imp (pw_or ha hb) fun σ H Q ⟨F, s, b, s', I, e, k⟩ => ?_
  obtain ⟨c, s1, e1, e2⟩ := mOr_inv e
  refine ⟨F, s, c, s1, I, e1, fun F1 H1 I1 K1 => ?_⟩
  cases c with
  | false => exact ⟨F1, s1, b, s', I1, e2, fun F' H' I' K' => k F' H' I' (K1.trans K' I')⟩
  | true =>
    have e2 : (Vr.sh (.bl true), s1) = (.sh (.bl b), s') := e2
    cases e2
    exact k F1 H1 I1 K1
theorem t_not {a : Expr} {ma : M g.R.S Vr} {pos : Pos} (ha : DT g X a ma) : DT g X (.UnaryOp .Not a pos) (mNot ma) := by
  refine PT.imp (pt_not ha) fun σ H Q ⟨F, s, b, s', I, e, k⟩ => ?_
  obtain ⟨c, s1, e1, e2⟩ := mNot_inv e
  cases e2
  exact ⟨F, s, c, _, I, e1, k⟩
end
end RW
namespace RW
open PySem L2
section
variable {g : G} {X : Cx}
/-! ### letting a thing go: what a slot owns is kept for good -/
def esc {R : Type} (r : Vr) : M R D := fun s => match r with
  | .sh d => some (d, s)
  | .tmp d => some (d, s)
  | .sl i => match s.e[i]? with
    | some (some c) => some (c.d, { s with e := s.e.set i (some ⟨c.d, false⟩) })
    | _ => none
theorem esc_ok {F : Hp} {s s' : S g.R.S} {σ : St} {H : Hp} {r : Vr} {v : V} {d : D} (I : Sim g F s σ H) (w : WOk g F σ r v) (e : esc r s = some (d, s')) : ∃ F', Sim g F' s' σ H ∧ Keep g F s σ H F' s' σ H ∧ Rep g F' v d := by
  cases r with
  | sh d' => cases e; exact ⟨F, I, Keep.refl, w⟩
  | tmp d' => exact w.elim
  | sl i =>
    have w : σ[i]? = some (some v) := w
    have e : (match s.e[i]? with | some (some c) => some (c.d, { s with e := s.e.set i (some ⟨c.d, false⟩) }) | _ => none) = some (d, s') := e
    split at e
    · rename_i c ec
      cases e
      obtain ⟨v', e1, q⟩ := I.cell i c ec
      rw [w] at e1; cases e1
      have hi : i < s.e.length := (List.getElem?_eq_some_iff.mp ec).1
      have at_i : (s.e.set i (some ⟨c.d, false⟩))[i]? = some (some ⟨c.d, false⟩) := List.getElem?_set_self hi
      have at_j : ∀ j, j ≠ i → (s.e.set i (some ⟨c.d, false⟩))[j]? = s.e[j]? := fun j h => List.getElem?_set_ne (Ne.symm h)
      have own' : ∀ a, Own σ (s.e.set i (some ⟨c.d, false⟩)) a → Own σ s.e a := fun a ⟨j, cj, h1, h2, h3⟩ => by
        by_cases hj : j = i
        · subst hj; rw [at_i] at h1; cases h1; cases h2
        · rw [at_j j hj] at h1; exact ⟨j, cj, h1, h2, h3⟩
      rcases q with ⟨ho, q⟩ | ⟨ho, p, o, rfl, b2, b3, b4, b5⟩
      · refine ⟨F, ⟨I.sub, I.at_, I.foot, by simpa using I.len, fun j cj ej => ?_, fun j k cj ck a hne ej ek oj ok hj => ?_⟩, ⟨fun _ _ h _ _ => h, Le.refl _, fun _ _ _ _ h _ => h, fun a h => .inl (own' a h), fun _ o h => ⟨o, h⟩⟩, q⟩
        · by_cases hj : j = i
          · subst hj; rw [at_i] at ej; cases ej; exact ⟨v, w, .inl ⟨rfl, q⟩⟩
          · rw [at_j j hj] at ej; exact I.cell j cj ej
        · have hj' : j ≠ i := fun z => by subst z; rw [at_i] at ej; cases ej; cases oj
          have hk' : k ≠ i := fun z => by subst z; rw [at_i] at ek; cases ek; cases ok
          rw [at_j j hj'] at ej; rw [at_j k hk'] at ek
          exact I.apart j k cj ck a hne ej ek oj ok hj
      · have le : Le F (upd F p o) := upd_le b2
        refine ⟨upd F p o, ⟨fun a u q => ?_, I.at_, fun a ha => ?_, by simpa using I.len, fun j cj ej => ?_, fun j k cj ck a hne ej ek oj ok hj => ?_⟩, ⟨fun _ _ h _ _ => h, le, fun a u q _ r n => ?_, fun a h => .inl (own' a h), fun _ o h => ⟨o, h⟩⟩, .ref upd_same (b5.mono le)⟩
        · by_cases z : a = p
          · subst z; rw [upd_same] at q; cases q; exact .inl b4
          · rw [upd_ne z] at q; exact I.sub a u q
        · rw [upd_ne (fun (z : a = p) => b3 (by rw [← z]; exact ha))]; exact I.foot a ha
        · by_cases hj : j = i
          · subst hj; rw [at_i] at ej; cases ej; exact ⟨_, w, .inl ⟨rfl, .ref upd_same (b5.mono le)⟩⟩
          · rw [at_j j hj] at ej
            obtain ⟨vj, f1, q⟩ := I.cell j cj ej
            refine ⟨vj, f1, ?_⟩
            rcases q with ⟨a, b⟩ | ⟨a, p', o', c1, c2, c3, c4, c5⟩
            · exact .inl ⟨a, b.mono le⟩
            · refine .inr ⟨a, p', o', c1, ?_, c3, c4, c5.mono le⟩
              rw [upd_ne (fun z => I.apart j i cj c p hj ej ec a ho (by rw [f1, c1, z]) w)]; exact c2
        · have hj' : j ≠ i := fun z => by subst z; rw [at_i] at ej; cases ej; cases oj
          have hk' : k ≠ i := fun z => by subst z; rw [at_i] at ek; cases ek; cases ok
          rw [at_j j hj'] at ej; rw [at_j k hk'] at ek
          exact I.apart j k cj ck a hne ej ek oj ok hj
        · rw [upd_ne (fun (z : a = p) => n ⟨i, c, ec, ho, by rw [w, z]⟩)]; exact r
    · cases e
def escAll {R : Type} : List Vr → M R (List D)
  | [] => fun s => some ([], s)
  | r :: rs => fun s => (esc r s).bind fun p => (escAll rs p.2).map fun q => (p.1 :: q.1, q.2)
def WAll (g : G) (F : Hp) (σ : St) : List Vr → List V → Prop
  | [], [] => True
  | r :: rs, v :: vs => WOk g F σ r v ∧ WAll g F σ rs vs
  | _, _ => False
theorem WAll.keep {F F1 : Hp} {σ : St} (le : Le F F1) : ∀ {rs : List Vr} {vs : List V}, WAll g F σ rs vs → WAll g F1 σ rs vs
  | [], [], _ => trivial
  | _ :: _, _ :: _, h => ⟨h.1.keep le, WAll.keep le h.2⟩
  | [], _ :: _, h => h.elim
  | _ :: _, [], h => h.elim
theorem WAll.length {F : Hp} {σ : St} : ∀ {rs : List Vr} {vs : List V}, WAll g F σ rs vs → rs.length = vs.length
  | [], [], _ => rfl
  | _ :: _, _ :: _, h => by simp [WAll.length h.2]
  | [], _ :: _, h => h.elim
  | _ :: _, [], h => h.elim
theorem RepAll.length {F : Hp} : ∀ {vs : List V} {ds : List D}, RepAll g F vs ds → vs.length = ds.length
  | _, _, .nil => rfl
  | _, _, .cons _ t => by simp [RepAll.length t]
theorem escAll_ok {σ : St} {H : Hp} : ∀ {rs : List Vr} {F : Hp} {s s' : S g.R.S} {vs : List V} {ds : List D}, Sim g F s σ H → WAll g F σ rs vs → escAll rs s = some (ds, s') → ∃ F', Sim g F' s' σ H ∧ Keep g F s σ H F' s' σ H ∧ RepAll g F' vs ds
  | [], F, s, s', [], ds, I, w, e => by cases e; exact ⟨F, I, Keep.refl, .nil⟩
  | [], _, _, _, _ :: _, _, _, w, _ => w.elim
  | _ :: _, _, _, _, [], _, _, w, _ => w.elim
  | r :: rs, F, s, s', v :: vs, ds, I, w, e => by
    unfold escAll at e
    obtain ⟨p, e1, e⟩ := Option.bind_eq_some_iff.mp e
    obtain ⟨q, e2, e⟩ := Option.map_eq_some_iff.mp e
    cases e
    obtain ⟨F1, I1, K1, r1⟩ := esc_ok I w.1 e1
    obtain ⟨F2, I2, K2, r2⟩ := escAll_ok I1 (w.2.keep K1.grow) e2
    exact ⟨F2, I2, K1.trans K2 I2, .cons (r1.mono K2.grow) r2⟩
/-! ### argument lists -/
def mArgs {R : Type} : List (M R Vr) → M R (List Vr)
  | [] => fun s => some ([], s)
  | m :: ms => fun s => (m s).bind fun p => (mArgs ms p.2).map fun q => (soft p.1 :: q.1, q.2)
def tMV (g : G) (n : Nat) (m : M g.R.S (List Vr)) : TA := fun σ H Q => ∃ F s rs s', Sim g F s σ H ∧ m s = some (rs, s') ∧
  ∀ F' vs H', Sim g F' s' σ H' → Keep g F s σ H F' s' σ H' → WAll g F' σ rs vs → vs.length = n → Q vs H'
def DA (g : G) (X : Cx) (n : Nat) (es : List Expr) (m : M g.R.S (List Vr)) : Prop := PA X es (tMV g n m)
theorem PA.imp {X : Cx} {e : List Expr} {t t' : TA} (h : PA X e t) (w : ∀ σ H Q, t' σ H Q → t σ H Q) : PA X e t' := ⟨fun pos pins s σ H Q I q => h.run pos pins s σ H Q I (w _ _ _ q)⟩
theorem a_nil : DA g X 0 [] (mArgs []) := PA.imp pa_nil fun σ H Q ⟨F, s, rs, s', I, e, k⟩ => by
  cases e
  exact k F [] H I Keep.refl trivial rfl
theorem a_cons {e : Expr} {es : List Expr} {n : Nat} {m : M g.R.S Vr} {ms : List (M g.R.S Vr)} (ha : DE g X e m) (hr : DA g X n es (mArgs ms)) (hs : starEach (e :: es) X.env = (false, eval e X.env) :: starEach es X.env := by rfl) : DA g X (n + 1) (e :: es) (mArgs (m :: ms)) := by
  refine PA.imp (pa_cons ha hr hs) fun σ H Q ⟨F, s, rs, s', I, e, k⟩ => ?_
  unfold mArgs at e
  obtain ⟨p, e1, e⟩ := Option.bind_eq_some_iff.mp e
  obtain ⟨q, e2, e⟩ := Option.map_eq_some_iff.mp e
  cases e
  refine tM_soft I e1 fun F1 v H1 I1 K1 w1 => ?_
  refine ⟨F1, _, q.1, q.2, I1, e2, fun F2 vs H2 I2 K2 w2 hl => ?_⟩
  exact k F2 (v :: vs) H2 I2 (K1.trans K2 I2) ⟨w1.keep K2.grow, w2⟩ (by simp [hl])
/-! ### displays -/
def mTup {R : Type} (ma : M R (List Vr)) : M R Vr := fun s => (ma s).bind fun p => (escAll p.1 p.2).map fun q => (.sh (.tup q.1), q.2)
def mLst {R : Type} (ma : M R (List Vr)) : M R Vr := fun s => (ma s).bind fun p => (escAll p.1 p.2).map fun q => (.tmp (.lst q.1), q.2)
theorem d_tup {es : List Expr} {n : Nat} {x1} {pos : Pos} {ma : M g.R.S (List Vr)} (h : DA g X n es ma) (hn : n ≤ sizeLine := by decide) : DE g X (.Tuple es x1 pos) (mTup ma) := by
  refine PE.imp (pe_tup h) fun σ H Q ⟨F, s, res, s', I, e, k⟩ => ?_
  unfold mTup at e
  obtain ⟨p, e1, e⟩ := Option.bind_eq_some_iff.mp e
  obtain ⟨q, e2, e⟩ := Option.map_eq_some_iff.mp e
  cases e
  refine ⟨F, s, p.1, p.2, I, e1, fun F1 vs H1 I1 K1 w1 hl => ⟨by rw [hl]; exact hn, fun a ha => ?_⟩⟩
  obtain ⟨F2, I2, K2, r2⟩ := escAll_ok I1 w1 e2
  have x : Ext F2 H1 (upd F2 a (.tup vs)) (upd H1 a (.tup vs)) := Ext.new I2.sub ha
  exact k _ _ _ (I2.ext x) ((K1.trans K2 I2).trans (Keep.ext x) (I2.ext x)) (.tup upd_same (r2.mono x.le))
theorem tmp_ok {F : Hp} {s : S g.R.S} {σ : St} {H : Hp} {F0 : Hp} {s0 : S g.R.S} {σ0 : St} {H0 : Hp} {p : Addr} {o : HO} {d : D} (I : Sim g F s σ H) (K : Keep g F0 s0 σ0 H0 F s σ H) (hp : H p = none) (r : RepO g F o d) : VOk g F s σ H0 (upd H p o) (.tmp d) (.ref p) := by
  refine ⟨p, o, rfl, ?_, I.sub.free hp, I.nofoot hp, fun z => ?_, upd_same, r⟩
  · cases q : H0 p with
    | none => rfl
    | some u => obtain ⟨o', e⟩ := K.there p u q; rw [hp] at e; cases e
  · obtain ⟨o, e, _⟩ := (I.own_at z).2.2
    rw [hp] at e; cases e
theorem d_lst {es : List Expr} {n : Nat} {pos : Pos} {ma : M g.R.S (List Vr)} (h : DA g X n es ma) (hn : n ≤ sizeLine := by decide) : DE g X (.List es pos) (mLst ma) := by
  refine PE.imp (pe_lst h) fun σ H Q ⟨F, s, res, s', I, e, k⟩ => ?_
  unfold mLst at e
  obtain ⟨p, e1, e⟩ := Option.bind_eq_some_iff.mp e
  obtain ⟨q, e2, e⟩ := Option.map_eq_some_iff.mp e
  cases e
  refine ⟨F, s, p.1, p.2, I, e1, fun F1 vs H1 I1 K1 w1 hl => ⟨by rw [hl]; exact hn, fun a ha => ?_⟩⟩
  obtain ⟨F2, I2, K2, r2⟩ := escAll_ok I1 w1 e2
  have x : Ext F2 H1 F2 (upd H1 a (.lst vs)) := Ext.tmp I2.sub ha
  exact k _ _ _ (I2.ext x) ((K1.trans K2 I2).trans (Keep.ext x) (I2.ext x)) (tmp_ok I2 (K1.trans K2 I2) ha (.lst r2))
def mDct0 {R : Type} (t : Bool) : M R Vr := fun s => some (.tmp (.dct t []), s)
theorem d_dct0 {pos : Pos} : DE g X (.Dict [] [] pos) (mDct0 false) := by
  refine PE.imp pe_dnewK fun σ H Q ⟨F, s, res, s', I, e, k⟩ a ha => ?_
  cases e
  have x : Ext F H F (upd H a (.dK [])) := Ext.tmp I.sub ha
  exact k _ _ _ (I.ext x) (Keep.ext x) (tmp_ok I Keep.refl ha (.dK .nil))
end
end RW
namespace RW
open PySem L2 PyProof.Rows
/-! ### what a def promises where nothing is being shown: (A.guards = some []), so that repr can be walked in its body -/
structure FnG (P : Program) (w : World) (K : PySem.W.Frag) (mg : Str → Option Value)
    (base : Heap) (k : Nat) (f : Addr) (fd : FuncData) (ps : List Str) (sp : Sp) : Prop where
  len : ∀ vs H Q E, sp vs H Q E → vs.length = ps.length
  go : ∀ {A : Around} {outer : List Env} {s : Shared} {H : Hp} {args : Args} {us : List Value} {vs : List V} {Q : VK},
    Room k A → A.guards = some [] → Env0 P w K mg base A outer s H →
    BindsTo s fd args (ps.zip us) → Vals vs us → sp vs H Q E0 →
    codeAny (model P w) A (.call (.ref f) args) (CR CX0 outer P w H s Q E0) s
section
variable {P : Program} {w : World} {K : PySem.W.Frag} {mg : Str → Option Value} {base : Heap} {j k : Nat} {f : Addr} {fd : FuncData} {ps : List Str} {sp : Sp}
theorem FnG.of (F : FnOk P w K mg base CX0 k f fd ps sp) : FnG P w K mg base k f fd ps sp :=
  ⟨F.len, fun hr _ e0 hb hv hs => F.run _ _ _ _ _ _ _ _ _ hr e0 hb hv hs⟩
theorem FnG.mono (F : FnG P w K mg base j f fd ps sp) (h : j ≤ k) : FnG P w K mg base k f fd ps sp :=
  ⟨F.len, fun hr => F.go (hr.mono h)⟩
theorem deeper_guards {A : Around} {env : Env} (h : A.guards = some []) : (A.deeper env).guards = some [] := h
theorem in1_guards {A : Around} (h : A.guards = some []) : A.in1.guards = some [] := h
theorem make_guards {A : Around} {C : Addr} {us : List Value} {kw : List (Str × Value)} (h : A.guards = some []) : (A.under (.builtin "type.__call__" ⟨.ref C :: us, kw⟩)).guards = some [] := by
  first
    | exact h
    | (simp [Around.under, Code.guards, Code.isGuard, guardIds, pushGuards]; exact h)
/-- a def, by its body -/
theorem FunD.okG {x qual : Str} {params : Arguments} {body : List Stmt} {scope : Scope} {dvs : List V} {kws : List (Str × V)} {N : List Str}
    (F : FunD K x qual params body scope dvs kws f fd) (S : FnScope N ps scope) (len : ∀ vs H Q E, sp vs H Q E → vs.length = ps.length)
    (hbody : ∀ (cdv : Value) (A : Around) (outer : List Env) (s : Shared) (H : Hp) (vs : List V) (Q : VK),
      Room k (A.deeper (envOfC qual scope s.heap.objs.size f cdv)) → A.guards = some [] → sp vs H Q E0 →
      ∃ t, PSs (cxOf CX0 P w K mg base N qual scope f cdv A outer s H E0) body t ∧ t { nx := fun _ H' => Q .non H', rt := Q } (L2.start N vs) H) :
    FnG P w K mg base (k + 1) f fd ps sp := by
  obtain ⟨oc, od, dV, kV, doc, pm, an, cdv, ct, osl, rfl, lk, hcd, _, _⟩ := F.ex
  constructor
  · exact len
  intro A outer s H args us vs Q hr hg e0 hb rv hsp
  have keep : ∀ b o, base.get? b = some o → s.heap.get? b = some o := fun b o e => (e0.bs b o e).1
  have inK := e0.mod.kin.keeps keep
  have nol := e0.mod.nolimit.keeps keep
  refine codeAny_call_function hr.depth (inK _ _ lk) rfl S.co S.gen rfl (PySem.W.codeRec_of inK hcd) (hb _ _ _ _ ?_)
  refine wpAny_newFunctionEnv_cells S.kind ?_ ?_
  · intro ⟨n, v⟩ hy
    rcases S.par n (List.of_mem_zip hy).1 with z | z
    · left; exact z
    · right; exact ⟨z, PySem.W.cellsFrom_some _ _ _ (.inl z)⟩
  intro env he s1 ic
  subst he
  refine ⟨nol.keeps ic.toInCall.keep, codeAny_func ?_⟩
  obtain ⟨t, ht, hq⟩ := hbody cdv A outer s H vs Q (hr.deeper _) hg hsp
  have J := inv_start (CX := CX0) (E := E0) (f := f) (cd := cdv) (qual := qual) S hr.hd e0 (len _ _ _ _ hsp) rv ic
  refine wpAny_mono (ht.run [] s1 (L2.start N vs) H _ J hq) ?_ (fun _ _ z => z)
  intro fl s' hs
  cases fl with
  | next =>
    obtain ⟨σ', H', J', q⟩ := hs
    exact ⟨V.non, H', J'.os, J'.bare, J'.base, J'.hok, rfl, q⟩
  | ret u =>
    obtain ⟨v, σ', H', J', r', q⟩ := hs
    exact ⟨v, H', J'.os, J'.bare, J'.base, J'.hok, r', q⟩
  | brk => exact hs.elim fun _ z => z.elim fun _ z => z.2.elim
  | cont => exact hs.elim fun _ z => z.elim fun _ z => z.2.elim
end
section
variable {X : Cx} {k : Nat} {f C : Addr} {fd : FuncData} {ps : List Str} {sp : Sp} {x m : Str} {p pos apos : Pos} {e o : Expr} {es : List Expr} {ta : TE} {t : TA}
/-- the callee runs, called with any arguments that bind -/
theorem FnG.go1 {pins : List (Addr × Obj)} {σ : L2.St} {H : Hp} {s : Shared} {Q : VK} {us ws : List Value} {kw : List (Str × Value)} {vs : List V}
    (F : FnG X.prog X.w X.K X.mg X.base k f fd ps sp) (hr : Room k X.A) (hg : X.A.guards = some []) (I : Inv X pins σ H s)
    (hb : BindsTo s fd ⟨ws, kw⟩ (ps.zip us)) (r : Vals vs us) (h : sp vs H Q E0) : wpAny (model X.prog X.w) X.A (call (.ref f) ws kw) (EP X pins σ Q) X.xe s := by
  refine wpAny_call (codeAny_mono (F.go hr hg I.env0 hb r h) ?_)
  intro r s' hq
  match r, hq with
  | .ok (.ret u), hq => exact I.after hq
theorem FnG.goB {pins : List (Addr × Obj)} {σ : L2.St} {H : Hp} {s : Shared} {Q : VK} {us : List Value} {vs : List V}
    (F : FnG X.prog X.w X.K X.mg X.base k f fd ps sp) (hr : Room k X.A) (hg : X.A.guards = some []) (hb : Binds X.K fd ps []) (I : Inv X pins σ H s)
    (r : Vals vs us) (h : sp vs H Q E0) : wpAny (model X.prog X.w) X.A (call (.ref f) us) (EP X pins σ Q) X.xe s := by
  have hl : (us ++ []).length = ps.length := by rw [List.append_nil, ← r.length]; exact F.len _ _ _ _ h
  have b := hb s us I.kIn hl
  rw [List.append_nil] at b
  exact F.go1 hr hg I b r h
theorem pg_call (F : FnG X.prog X.w X.K X.mg X.base k f fd ps sp) (hr : Room k X.A) (gd : X.A.guards = some []) (hg : Gl X x) (hm : X.mg x = some (.ref f))
    (hk : PySem.W.keepIn X.K (.ref f) = true) (hb : Binds X.K fd ps []) (ha : PA X (e :: es) t) (hdb : (x == ("__debug__" : Str)) = false)
    (he : starEach (e :: es) X.env = (false, eval e X.env) :: starEach es X.env) (hpl : (backTo pos (starEach es X.env)).any (·.1) = false) :
    PE X (.Call (.Name x p) (e :: es) [] pos) (fun σ H Q => t σ H fun vs H1 => sp vs H1 Q E0) := by
  constructor
  intro pins s σ H Q I h
  refine wpAny_Call_Name_kw (ld_glob I hg hm ?_ hdb)
  refine PySem.W.callWith_K (h₀ := X.base) I.ok.mod.kin hk (thn (ha.run pos pins s σ H _ I h) ?_) he hpl
  intro us s1 ⟨vs, H1, I1, r, q⟩
  exact ⟨I1.kIn, F.goB hr gd hb I1 r q⟩
theorem pg_meth {pl : Sem Bool} (he : PE X o ta) (c : Cls X.K C) (hm : Meth X.K C m f) (F : FnG X.prog X.w X.K X.mg X.base k f fd ps sp) (hr : Room k X.A) (gd : X.A.guards = some [])
    (hb : Binds X.K fd ps []) (ha : PA X (e :: es) t) (hst : starEach (e :: es) X.env = (false, eval e X.env) :: starEach es X.env) (hpl : (backTo pos (starEach es X.env)).any (·.1) = false)
    (ht : eval (.Call (.Attribute o m apos) (e :: es) [] pos) X.env = (eval o X.env >>= fun ov => standAt apos.atName >>= fun _ => holding [ov] (getMethod ov m pl) >>= fun x => callWith pos x.1 x.2 (backTo pos (starEach (e :: es) X.env)) (backToKw pos (keywordEach [] X.env)))) :
    PE X (.Call (.Attribute o m apos) (e :: es) [] pos) (tMeth C m sp [] E0 ta t) := by
  constructor
  intro pins s σ H Q I h
  refine PySem.W.methodCall_KW (pl := pl) (thn (he.run pins s σ H _ I h) ?_) ht
  rintro u s1 ⟨x, H1, I1, rx, a, dx, fs, rfl, ea, l, q⟩
  obtain rfl : u = Value.ref a := rx
  refine getmeth_ok I1 ea c hm l (PySem.W.callWith_K (first := [.ref a]) (h₀ := X.base) I.ok.mod.kin hm.kp (thn (ha.run pos pins s1 σ H1 _ I1 q) ?_) hst hpl)
  intro us s2 ⟨vs, H2, I2, r, q2⟩
  have q2 : sp (V.ref a :: vs) H2 Q E0 := by have z : sp (V.ref a :: (vs ++ [])) H2 Q E0 := q2; rwa [List.append_nil] at z
  exact ⟨I2.kIn, F.goB (us := .ref a :: us) (vs := .ref a :: vs) hr gd hb I2 (.cons rfl r) q2⟩
theorem pg_make (M : Mk X.K C f) (F : FnG X.prog X.w X.K X.mg X.base k f fd ps sp) (hr : Room (k + 1) X.A) (gd : X.A.guards = some []) (hg : Gl X x) (hm : X.mg x = some (.ref C))
    {ds : List Value} {dvs : List V} (hb : Binds X.K fd ps ds) (hd : Vals dvs ds)
    (ha : PA X (e :: es) t) (hdb : (x == ("__debug__" : Str)) = false) (he : starEach (e :: es) X.env = (false, eval e X.env) :: starEach es X.env) (hpl : (backTo pos (starEach es X.env)).any (·.1) = false) :
    PE X (.Call (.Name x p) (e :: es) [] pos) (tMake C sp dvs E0 t) := by
  constructor
  intro pins s σ H Q I h
  refine wpAny_Call_Name_kw (ld_glob I hg hm ?_ hdb)
  refine PySem.W.callWith_K (h₀ := X.base) I.ok.mod.kin M.kp (thn (ha.run pos pins s σ H _ I h) ?_) he hpl
  intro us s1 ⟨vs, H1, I1, r, q⟩
  refine ⟨I1.kIn, ?_⟩
  have q0 := q (s1.heap.objs.size + 1) s1.heap.objs.size (I1.hok.fresh (Nat.le_succ _)) (I1.hok.fresh (Nat.le_refl _)) (Nat.ne_of_lt (Nat.lt_succ_self _))
  have I2 := Inv.made (C := C) I1
  have r2 : Vals (V.ref (s1.heap.objs.size + 1) :: (vs ++ dvs)) (Value.ref (s1.heap.objs.size + 1) :: (us ++ ds)) := .cons rfl (r.append hd)
  have hl : (Value.ref (s1.heap.objs.size + 1) :: us ++ ds).length = ps.length := (r2.length.symm.trans (F.len _ _ _ _ q0))
  refine wpAny_call (make_map (f := f) I1.kIn M.makes M.init (beq_iff_eq.mp M.fn) ?_)
  have b := hb _ (Value.ref (s1.heap.objs.size + 1) :: us) I2.kIn hl
  refine codeAny_mono (F.go (hr.make C us []) (make_guards gd) (I2.env0.make C us []) b r2 q0) ?_
  intro res s' hq
  match res, hq with
  | .ok (.ret u), hq =>
    obtain ⟨v, H', I3, rv, ev, q3⟩ := I2.after hq
    cases ev
    exact ⟨rv, V.ref (s1.heap.objs.size + 1), H', I3, rfl, q3⟩
theorem pg_prop {pr : Addr} (he : PE X e ta) (c : Cls X.K C) (hp : PropOf X.K C m pr f) (F : FnG X.prog X.w X.K X.mg X.base k f fd ps sp) (hr : Room (k + 1) X.A) (gd : X.A.guards = some [])
    (hb : Binds X.K fd ps []) (hab : attributeBase e m X.env (eval e X.env) = eval e X.env) : PE X (.Attribute e m pos) (tProp C sp [] E0 ta) := by
  constructor
  intro pins s σ H Q I h
  refine attr_of hab (thn (he.run pins s σ H _ I h) ?_)
  rintro u s1 ⟨x, H1, I1, rx, a, dx, fs, rfl, ea, q⟩
  obtain rfl : u = Value.ref a := rx
  obtain ⟨mA, O, _⟩ := ins_get I1.hok ea
  obtain ⟨od, J, _⟩ := O.look
  obtain ⟨rest, hrec⟩ := hp.rec_
  have I2 := I1.tok (s1.toks + 1)
  have hc : (PySem.W.clsIn X.K C).isSome = true := by
    obtain ⟨cd, z, _⟩ := PySem.W.any_some c.hd
    simp [z]
  refine PySem.W.get_bind I1.kIn J (PySem.W.plainGet_of (c.get m)).1 (PySem.W.findObj_data hc hp.at_ hp.get hp.tak) (PySem.W.plainGet_of (c.get m)).2 ?_
  refine wpAny_call (PySem.W.prop_get (s := { s1 with toks := s1.toks + 1 }) I1.kIn hrec ?_)
  have hl : ([Value.ref a] ++ []).length = ps.length := (F.len _ _ _ _ q)
  have b := hb { s1 with toks := s1.toks + 1 } [.ref a] I2.kIn hl
  refine codeAny_mono (F.go (vs := [.ref a]) hr.in1 (in1_guards gd) I2.env0.in1 b (.cons rfl .nil) q) ?_
  intro res s' hq
  match res, hq with
  | .ok (.ret u), hq =>
    obtain ⟨v, H', I3, rv, q3⟩ := I2.after hq
    show wpAny _ _ (handedOut u) _ _ _
    rw [PySem.W.handedOut_of (handed_of rv)]
    exact wpAny_pure ⟨v, H', I3, rv, q3⟩
end
end RW
namespace RW
open PySem L2
section
variable {g : G} {X : Cx}
/-! ### what a def promises -/
abbrev Fm (R : Type) := List D → R → Option (Vr × R)
def ROk (g : G) (F H0 H : Hp) : Vr → V → Prop
  | .sh d, v => Rep g F v d
  | .tmp d, v => ∃ p o, v = .ref p ∧ H0 p = none ∧ F p = none ∧ ¬ g.R.foot p ∧ H p = some o ∧ RepO g F o d
  | .sl _, _ => False
/-- what a call leaves -/
structure Left (g : G) (F H F' H' : Hp) (r' : g.R.S) : Prop where
  sub : Sub F' H'
  at_ : g.R.At r' H'
  foot : ∀ a, g.R.foot a → F' a = none
  le : Le F F'
  heap : ∀ a o, H a = some o → ¬ g.R.foot a → H' a = some o
  nof : ∀ a o, H a = some o → NT o → F a = none → F' a = none
  there : ∀ a o, H a = some o → ∃ o', H' a = some o'
def spM (g : G) (n : Nat) (mf : Fm g.R.S) : Sp := fun vs H Q _ => ∃ F r ds res r', Sub F H ∧ g.R.At r H ∧ (∀ a, g.R.foot a → F a = none) ∧ RepAll g F vs ds ∧ ds.length = n ∧ mf ds r = some (res, r') ∧
  ∀ F' v H', Left g F H F' H' r' → ROk g F' H H' res v → Q v H'
def isAtom : Vr → Bool
  | .sh .non => true
  | .sh (.bl _) => true
  | .sh (.int _) => true
  | .sh (.str _) => true
  | _ => false
def mCall {R : Type} (mf : Fm R) (ma : M R (List Vr)) : M R Vr := fun s => (ma s).bind fun p => (escAll p.1 p.2).bind fun z => (mf z.1 z.2.r).bind fun q =>
  match q.1 with
  | .sl _ => none
  | x => some (x, if isAtom x then { p.2 with r := q.2 } else { z.2 with r := q.2 })
theorem atom_any {F F' : Hp} {v : V} {d : D} (h : isAtom (.sh d) = true) (r : Rep g F v d) : Rep g F' v d := by
  cases r with
  | non => exact .non
  | bl => exact .bl _
  | int => exact .int _
  | str => exact .str _
  | ref _ z => cases z <;> cases h
  | tup _ _ => cases h
  | kt _ _ _ => cases h
  | res => cases h
  | kscr _ => cases h
/-- the state behind a call, all that the caller knew kept -/
theorem Sim.left {F F' : Hp} {s : S g.R.S} {σ : St} {H H' : Hp} {r' : g.R.S} (I : Sim g F s σ H) (l : Left g F H F' H' r') : Sim g F' { s with r := r' } σ H' ∧ Keep g F s σ H F' { s with r := r' } σ H' := by
  refine ⟨⟨l.sub, l.at_, l.foot, I.len, fun i c e => ?_, I.apart⟩, ⟨fun a o h _ nf => l.heap a o h nf, l.le, fun a o h nt q _ => l.nof a o h nt q, fun a h => .inl h, l.there⟩⟩
  obtain ⟨v, e1, q⟩ := I.cell i c e
  refine ⟨v, e1, ?_⟩
  rcases q with ⟨a, b⟩ | ⟨a, p, o, b1, b2, b3, b4, b5⟩
  · exact .inl ⟨a, b.mono l.le⟩
  · exact .inr ⟨a, p, o, b1, l.nof _ _ b4 b5.nt b2, b3, l.heap _ _ b4 b3, b5.mono l.le⟩
/-- .. what the callee added is forgotten -/
theorem Sim.left0 {F F1 F' : Hp} {s : S g.R.S} {σ : St} {H H' : Hp} {r' : g.R.S} (I : Sim g F s σ H) (l : Left g F1 H F' H' r') : Sim g F { s with r := r' } σ H' ∧ Keep g F s σ H F { s with r := r' } σ H' := by
  refine ⟨⟨fun a o e => ?_, l.at_, I.foot, I.len, fun i c e => ?_, I.apart⟩, ⟨fun a o h _ nf => l.heap a o h nf, Le.refl _, fun a o h _ q _ => q, fun a h => .inl h, l.there⟩⟩
  · have nf : ¬ g.R.foot a := fun z => by rw [I.foot a z] at e; cases e
    rcases I.sub a o e with q | ⟨q, ob, q2⟩
    · exact .inl (l.heap a o q nf)
    · exact .inr ⟨q, ob, l.heap a _ q2 nf⟩
  · obtain ⟨v, e1, q⟩ := I.cell i c e
    refine ⟨v, e1, ?_⟩
    rcases q with ⟨a, b⟩ | ⟨a, p, o, b1, b2, b3, b4, b5⟩
    · exact .inl ⟨a, b⟩
    · exact .inr ⟨a, p, o, b1, b2, b3, l.heap _ _ b4 b3, b5⟩
theorem tCall_of {n : Nat} {mf : Fm g.R.S} {ma : M g.R.S (List Vr)} {σ : St} {H : Hp} {Q : VK} {E : XK} (h : tM g (mCall mf ma) σ H Q) : tMV g n ma σ H fun vs H1 => spM g n mf vs H1 Q E := by
  obtain ⟨F, s, res, s', I, e, k⟩ := h
  unfold mCall at e
  obtain ⟨p, e1, e⟩ := Option.bind_eq_some_iff.mp e
  obtain ⟨z, e2, e⟩ := Option.bind_eq_some_iff.mp e
  obtain ⟨q, e3, e⟩ := Option.bind_eq_some_iff.mp e
  refine ⟨F, s, p.1, p.2, I, e1, fun F1 vs H1 I1 K1 w1 hl => ?_⟩
  obtain ⟨F2, I2, K2, r2⟩ := escAll_ok I1 w1 e2
  refine ⟨F2, z.2.r, z.1, q.1, q.2, I2.sub, I2.at_, I2.foot, r2, by rw [← r2.length, hl], e3, fun F' v H' l r => ?_⟩
  have hres : q.1 = res ∧ s' = (if isAtom res then { p.2 with r := q.2 } else { z.2 with r := q.2 }) := by
    revert e
    cases q.1 with
    | sl i => intro e; cases e
    | sh d => intro e; cases e; exact ⟨rfl, rfl⟩
    | tmp d => intro e; cases e; exact ⟨rfl, rfl⟩
  obtain ⟨hq, hs⟩ := hres
  rw [hq] at r
  cases ha : isAtom res with
  | true =>
    rw [ha, if_pos rfl] at hs
    subst hs
    obtain ⟨I3, K3⟩ := I1.left0 l
    refine k F1 v H' I3 (K1.trans K3 I3) ?_
    cases res with
    | sh d => exact atom_any ha r
    | tmp d => cases ha
    | sl i => cases ha
  | false =>
    rw [ha, if_neg Bool.false_ne_true] at hs
    subst hs
    obtain ⟨I3, K3⟩ := I2.left l
    have K13 := (K1.trans K2 I2).trans K3 I3
    refine k F' v H' I3 K13 ?_
    cases res with
    | sh d => exact r
    | tmp d =>
      obtain ⟨a, o, rfl, h0, h1, h2, h3, h4⟩ := r
      refine ⟨a, o, rfl, ?_, h1, h2, fun y => ?_, h3, h4⟩
      · cases u : H a with
        | none => rfl
        | some w => obtain ⟨o', e'⟩ := K1.there a w u; rw [h0] at e'; cases e'
      · obtain ⟨o', e', _⟩ := (I2.own_at (s := z.2) y).2.2
        rw [h0] at e'; cases e'
    | sl i => exact r.elim
theorem d_call {k : Nat} {f : Addr} {fd : FuncData} {ps : List Str} {n : Nat} {mf : Fm g.R.S} {x : Str} {p pos : Pos} {e : Expr} {es : List Expr} {ma : M g.R.S (List Vr)} (F : FnG X.prog X.w X.K X.mg X.base k f fd ps (spM g n mf)) (hr : Room k X.A) (gd : X.A.guards = some []) (hg : Gl X x) (hm : X.mg x = some (.ref f)) (hk : PySem.W.keepIn X.K (.ref f) = true) (hb : Binds X.K fd ps [])
    (ha : DA g X n (e :: es) ma) (hdb : (x == ("__debug__" : Str)) = false := by decide) (he : starEach (e :: es) X.env = (false, eval e X.env) :: starEach es X.env := by rfl) (hpl : (backTo pos (starEach es X.env)).any (·.1) = false := by rfl) :
    DE g X (.Call (.Name x p) (e :: es) [] pos) (mCall mf ma) := by
  refine PE.imp (pg_call F hr gd hg hm hk hb ha hdb he hpl) fun σ H Q h => ?_
  obtain ⟨F, s, rs, s', I, e, k⟩ := tCall_of (n := n) (E := E0) h
  exact ⟨F, s, rs, s', I, e, fun F' vs H' a b c d => k F' vs H' a b c d⟩
/-! ### statements -/
inductive Fl where
  | nx | bk | ct | rt (v : Vr)
abbrev MS (R : Type) := M R Fl
/-- what is handed back: kept data, or a thing of one's own (new, or a slot's) -/
def XOk (g : G) (F : Hp) (σ0 : St) (e0 : List (Option Cell)) (H0 H : Hp) : Vr → V → Prop
  | .sh d, v => Rep g F v d
  | .tmp d, v => ∃ p o, v = .ref p ∧ (Own σ0 e0 p ∨ H0 p = none) ∧ F p = none ∧ ¬ g.R.foot p ∧ H p = some o ∧ RepO g F o d
  | .sl _, _ => False
theorem XOk.base {F F1 F' : Hp} {s s1 : S g.R.S} {σ σ1 : St} {H H1 H' : Hp} {res : Vr} {v : V} (K : Keep g F s σ H F1 s1 σ1 H1) (r : XOk g F' σ1 s1.e H1 H' res v) : XOk g F' σ s.e H H' res v := by
  cases res with
  | sh d => exact r
  | sl i => exact r
  | tmp d =>
    obtain ⟨p, o, rfl, h0, h⟩ := r
    refine ⟨p, o, rfl, ?_, h⟩
    rcases h0 with h0 | h0
    · exact K.own p h0
    · right
      cases q : H p with
      | none => rfl
      | some u => obtain ⟨o', e⟩ := K.there p u q; rw [h0] at e; cases e
def Out (g : G) (E : Ends) (F : Hp) (s : S g.R.S) (σ : St) (H : Hp) (s' : S g.R.S) : Fl → Prop
  | .nx => ∀ F' σ' H', Sim g F' s' σ' H' → Keep g F s σ H F' s' σ' H' → E.nx σ' H'
  | .bk => ∀ F' σ' H', Sim g F' s' σ' H' → Keep g F s σ H F' s' σ' H' → E.bk σ' H'
  | .ct => ∀ F' σ' H', Sim g F' s' σ' H' → Keep g F s σ H F' s' σ' H' → E.ct σ' H'
  | .rt res => ∀ F' σ' v H', Sim g F' s' σ' H' → Keep g F s σ H F' s' σ' H' → XOk g F' σ s.e H H' res v → E.rt v H'
def tS (g : G) (m : MS g.R.S) : TS := fun E σ H => ∃ F s fl s', Sim g F s σ H ∧ m s = some (fl, s') ∧ Out g E F s σ H s' fl
def DS (g : G) (X : Cx) (st : Stmt) (m : MS g.R.S) : Prop := PS X st (tS g m)
def DB (g : G) (X : Cx) (sts : List Stmt) (m : MS g.R.S) : Prop := PSs X sts (tS g m)
theorem PS.imp {X : Cx} {e : Stmt} {t t' : TS} (h : PS X e t) (w : ∀ E σ H, t' E σ H → t E σ H) : PS X e t' := ⟨fun pins s σ H E I q => h.run pins s σ H E I (w _ _ _ q)⟩
theorem PSs.imp {X : Cx} {e : List Stmt} {t t' : TS} (h : PSs X e t) (w : ∀ E σ H, t' E σ H → t E σ H) : PSs X e t' := ⟨fun pins s σ H E I q => h.run pins s σ H E I (w _ _ _ q)⟩
/-- what follows, behind a step that is kept -/
theorem Out.base {E : Ends} {F F1 : Hp} {s s1 s' : S g.R.S} {σ σ1 : St} {H H1 : Hp} {fl : Fl} (K : Keep g F s σ H F1 s1 σ1 H1) (o : Out g E F s σ H s' fl) : Out g E F1 s1 σ1 H1 s' fl := by
  cases fl with
  | nx => exact fun F' σ' H' I' K' => o F' σ' H' I' (K.trans K' I')
  | bk => exact fun F' σ' H' I' K' => o F' σ' H' I' (K.trans K' I')
  | ct => exact fun F' σ' H' I' K' => o F' σ' H' I' (K.trans K' I')
  | rt res => exact fun F' σ' v H' I' K' r => o F' σ' v H' I' (K.trans K' I') (r.base K)
def mNx {R : Type} : MS R := fun s => some (.nx, s)
def mSeq {R : Type} (m n : MS R) : MS R := fun s => (m s).bind fun p => match p.1 with
  | .nx => n p.2
  | f => some (f, p.2)
theorem b_nil : DB g X [] mNx := PSs.imp pss_nil fun E σ H ⟨F, s, fl, s', I, e, o⟩ => by
  cases e
  exact o F σ H I Keep.refl
theorem b_cons {st : Stmt} {rest : List Stmt} {m n : MS g.R.S} (h1 : DS g X st m) (h2 : DB g X rest n) : DB g X (st :: rest) (mSeq m n) := by
  refine PSs.imp (pss_cons h1 h2) fun E σ H ⟨F, s, fl, s', I, e, o⟩ => ?_
  unfold mSeq at e
  obtain ⟨⟨f, s1⟩, e1, e⟩ := Option.bind_eq_some_iff.mp e
  refine ⟨F, s, f, s1, I, e1, ?_⟩
  cases f with
  | nx => exact fun F' σ' H' I' K' => ⟨F', s1, fl, s', I', e, o.base K'⟩
  | bk => cases e; exact o
  | ct => cases e; exact o
  | rt r => cases e; exact o
theorem b_one {st : Stmt} {m : MS g.R.S} (h1 : DS g X st m) : DB g X [st] m := pss_one h1
def mBk {R : Type} : MS R := fun s => some (.bk, s)
def mCt {R : Type} : MS R := fun s => some (.ct, s)
/-- a statement that is never come to -/
def mNo {R : Type} : MS R := fun _ => none
theorem s_no {st : Stmt} : DS g X st mNo := PS.imp ps_never fun E σ H ⟨F, s, fl, s', I, e, o⟩ => by cases e
def mEx {R : Type} (ma : M R Vr) : MS R := fun s => (ma s).map fun p => (.nx, p.2)
theorem s_expr {e : Expr} {ma : M g.R.S Vr} {pos : Pos} (h : DE g X e ma) (hs : swapsWith e none pos.line X.env = pure false := by rfl) : DS g X (.Expr e pos) (mEx ma) := PS.imp (ps_expr h hs) fun E σ H ⟨F, s, fl, s', I, e, o⟩ => by
  unfold mEx at e
  obtain ⟨p, e1, e⟩ := Option.map_eq_some_iff.mp e
  cases e
  exact ⟨F, s, p.1, p.2, I, e1, fun F' v H' I' K' _ => o F' σ H' I' K'⟩
/-- return e: a slot's own thing goes out -/
def mRt {R : Type} (ma : M R Vr) : MS R := fun s => (ma s).bind fun p => match p.1 with
  | .sl i => match p.2.e[i]? with
    | some (some c) => some (.rt (if c.own then .tmp c.d else .sh c.d), p.2)
    | _ => none
  | r => some (.rt r, p.2)
theorem s_ret {e : Expr} {ma : M g.R.S Vr} {pos : Pos} (h : DE g X e ma) : DS g X (.Return (some e) pos) (mRt ma) := PS.imp (ps_ret h) fun E σ H ⟨F, s, fl, s', I, e, o⟩ => by
  unfold mRt at e
  obtain ⟨⟨r, s1⟩, e1, e⟩ := Option.bind_eq_some_iff.mp e
  refine ⟨F, s, r, s1, I, e1, fun F' v H' I' K' w => ?_⟩
  cases r with
  | sh d => cases e; exact o F' σ v H' I' K' w
  | tmp d =>
    cases e
    obtain ⟨p, q, rfl, h0, h1, h2, h3, h4, h5⟩ := w
    exact o F' σ _ H' I' K' ⟨p, q, rfl, .inr h0, h1, h2, h4, h5⟩
  | sl i =>
    have w : σ[i]? = some (some v) := w
    have e : (match s1.e[i]? with | some (some c) => some (Fl.rt (if c.own then .tmp c.d else .sh c.d), s1) | _ => none) = some (fl, s') := e
    split at e
    · rename_i c ec
      cases e
      obtain ⟨v', f1, q⟩ := I'.cell i c ec
      rw [w] at f1; cases f1
      rcases q with ⟨ho, q⟩ | ⟨ho, p, oo, rfl, b2, b3, b4, b5⟩
      · rw [ho] at o; exact o F' σ _ H' I' K' q
      · rw [ho] at o
        exact o F' σ _ H' I' K' ⟨p, oo, rfl, K'.own p ⟨i, c, ec, ho, w⟩, b2, b3, b4, b5⟩
    · cases e
def mRtN {R : Type} : MS R := fun s => some (.rt (.sh .non), s)
def mIte {R : Type} (mc : M R Vr) (m n : MS R) : MS R := fun s => (mc s).bind fun p => match p.1 with
  | .sh (.bl true) => m p.2
  | .sh (.bl false) => n p.2
  | _ => none
theorem mIte_inv {mc : M g.R.S Vr} {m n : MS g.R.S} {s : S g.R.S} {x : Fl × S g.R.S} (e : mIte mc m n s = some x) : ∃ b s', mc s = some (.sh (.bl b), s') ∧ (if b = true then m s' = some x else n s' = some x) := by
  obtain ⟨b, s', e1, e2⟩ := first_bl (F := fun v s' => match v with
    | .sh (.bl true) => m s'
    | .sh (.bl false) => n s'
    | _ => none) (ma := mc) (s := s) e (fun v s' h => by
      cases v with
      | sh d => cases d with
        | bl b => exact ⟨b, rfl⟩
        | _ => cases h
      | _ => cases h)
  refine ⟨b, s', e1, ?_⟩
  cases b with
  | true => exact e2
  | false => exact e2
theorem s_if {c : Expr} {a b : List Stmt} {mc : M g.R.S Vr} {m n : MS g.R.S} {pos : Pos} (hc : DT g X c mc) (ha : DB g X a m) (hb : DB g X b n) : DS g X (.If c a b pos) (mIte mc m n) := by
  refine PS.imp (ps_if hc ha hb) fun E σ H ⟨F, s, fl, s', I, e, o⟩ => ?_
  obtain ⟨c, s1, e1, e2⟩ := mIte_inv e
  refine ⟨F, s, c, s1, I, e1, fun F1 H1 I1 K1 => ?_⟩
  cases c with
  | true => exact ⟨F1, s1, fl, s', I1, e2, o.base K1⟩
  | false => exact ⟨F1, s1, fl, s', I1, e2, o.base K1⟩
end
end RW
namespace RW
open PySem L2
section
variable {g : G} {X : Cx}
/-! ### a slot is stored -/
theorem Sim.set {F : Hp} {s : S g.R.S} {σ : St} {H : Hp} (I : Sim g F s σ H) (i : Nat) {c : Cell} {v : V} (q : CellOk g F H c v) (hap : c.own = true → ∀ p, v = .ref p → ∀ j cj, j ≠ i → s.e[j]? = some (some cj) → cj.own = true → σ[j]? ≠ some (some (.ref p))) :
    Sim g F { s with e := s.e.set i (some c) } (σ.set i (some v)) H := by
  have len : (s.e.set i (some c)).length = (σ.set i (some v)).length := by simpa using I.len
  refine ⟨I.sub, I.at_, I.foot, len, fun j cj ej => ?_, fun j k cj ck a hne ej ek oj ok hj => ?_⟩
  · by_cases hj : j = i
    · subst hj
      have hl : j < s.e.length := by
        have := (List.getElem?_eq_some_iff.mp ej).1
        simpa using this
      rw [show ({ s with e := s.e.set j (some c) } : S g.R.S).e = s.e.set j (some c) from rfl, List.getElem?_set_self hl] at ej
      cases ej
      exact ⟨v, List.getElem?_set_self (by rw [← I.len]; exact hl), q⟩
    · rw [show ({ s with e := s.e.set i (some c) } : S g.R.S).e = s.e.set i (some c) from rfl, List.getElem?_set_ne (Ne.symm hj)] at ej
      rw [List.getElem?_set_ne (Ne.symm hj)]
      exact I.cell j cj ej
  · replace ej : (s.e.set i (some c))[j]? = some (some cj) := ej
    replace ek : (s.e.set i (some c))[k]? = some (some ck) := ek
    have hl : ∀ {m : Nat} {cm : Cell}, (s.e.set i (some c))[m]? = some (some cm) → m < s.e.length := fun {m cm} h => by
      have := (List.getElem?_eq_some_iff.mp h).1
      simpa using this
    by_cases h1 : j = i
    · subst h1
      have l := hl ej
      rw [List.getElem?_set_self l] at ej
      cases ej
      rw [List.getElem?_set_self (by rw [← I.len]; exact l)] at hj
      cases hj
      have hk : k ≠ j := Ne.symm hne
      rw [List.getElem?_set_ne hne] at ek ⊢
      exact hap oj a rfl k ck hk ek ok
    · rw [List.getElem?_set_ne (Ne.symm h1)] at ej hj
      by_cases h2 : k = i
      · subst h2
        have l := hl ek
        rw [List.getElem?_set_self l] at ek
        cases ek
        rw [List.getElem?_set_self (by rw [← I.len]; exact l)]
        intro z
        cases z
        exact hap ok a rfl j cj h1 ej oj hj
      · rw [List.getElem?_set_ne (Ne.symm h2)] at ek ⊢
        exact I.apart j k cj ck a hne ej ek oj ok hj
theorem Own.set {e : List (Option Cell)} {σ : St} {i : Nat} {c : Cell} {v : V} {a : Addr} (hl : e.length = σ.length) (h : Own (σ.set i (some v)) (e.set i (some c)) a) : Own σ e a ∨ (c.own = true ∧ v = .ref a) := by
  obtain ⟨j, cj, h1, h2, h3⟩ := h
  by_cases hj : j = i
  · subst hj
    have l : j < e.length := by
      have := (List.getElem?_eq_some_iff.mp h1).1
      simpa using this
    rw [List.getElem?_set_self l] at h1
    cases h1
    rw [List.getElem?_set_self (by rw [← hl]; exact l)] at h3
    cases h3
    exact .inr ⟨h2, rfl⟩
  · rw [List.getElem?_set_ne (Ne.symm hj)] at h1 h3
    exact .inl ⟨j, cj, h1, h2, h3⟩
/-- a value comes to a slot -/
def put {R : Type} (i : Nat) (r : Vr) (s : S R) : Option (S R) := match r with
  | .sh d => some { s with e := s.e.set i (some ⟨d, false⟩) }
  | .tmp d => some { s with e := s.e.set i (some ⟨d, true⟩) }
  | .sl _ => none
/-- a slot's thing is let go, all else stays -/
def hard {R : Type} (r : Vr) : M R Vr := fun s => match r with
  | .sl i => (esc (.sl i) s).map fun p => (.sh p.1, p.2)
  | r => some (r, s)
theorem VOk.keep {F F1 : Hp} {s s1 : S g.R.S} {σ : St} {H0 H H1 : Hp} {r : Vr} {v : V} (h : VOk g F s σ H0 H r v) (K : Keep g F s σ H F1 s1 σ H1) : VOk g F1 s1 σ H0 H1 r v := by
  cases r with
  | sh d => exact Rep.mono K.grow h
  | sl i => exact h
  | tmp d =>
    obtain ⟨p, o, rfl, h0, h1, h2, h3, h4, h5⟩ := h
    refine ⟨p, o, rfl, h0, K.nof p o h4 h5.nt h1 h3, h2, fun z => ?_, K.heap p o h4 h3 h2, h5.mono K.grow⟩
    rcases K.own p z with z | z
    · exact h3 z
    · rw [h4] at z; cases z
theorem hard_ok {F : Hp} {s s' : S g.R.S} {σ : St} {H0 H : Hp} {r r' : Vr} {v : V} (I : Sim g F s σ H) (h : VOk g F s σ H0 H r v) (e : hard r s = some (r', s')) : ∃ F', Sim g F' s' σ H ∧ Keep g F s σ H F' s' σ H ∧ VOk g F' s' σ H0 H r' v ∧ ∀ i, r' ≠ .sl i := by
  cases r with
  | sh d => cases e; exact ⟨F, I, Keep.refl, h, fun _ z => nomatch z⟩
  | tmp d => cases e; exact ⟨F, I, Keep.refl, h, fun _ z => nomatch z⟩
  | sl i =>
    obtain ⟨p, e1, e⟩ := Option.map_eq_some_iff.mp (show (esc (.sl i) s).map (fun p => (Vr.sh p.1, p.2)) = some (r', s') from e)
    cases e
    obtain ⟨F', I', K', r⟩ := esc_ok (r := .sl i) I h e1
    exact ⟨F', I', K', r, fun _ z => nomatch z⟩
theorem put_ok {F F0 : Hp} {s s0 s' : S g.R.S} {σ σ0 : St} {H0 H : Hp} {i : Nat} {r : Vr} {v : V} (I : Sim g F s σ H) (K : Keep g F0 s0 σ0 H0 F s σ H) (h : VOk g F s σ H0 H r v) (e : put i r s = some s') : Sim g F s' (σ.set i (some v)) H ∧ Keep g F0 s0 σ0 H0 F s' (σ.set i (some v)) H := by
  cases r with
  | sl j => cases e
  | sh d =>
    cases e
    have h : Rep g F v d := h
    refine ⟨I.set i (.inl ⟨rfl, h⟩) (fun z => nomatch z), ⟨K.heap, K.grow, K.nof, fun a z => ?_, K.there⟩⟩
    rcases z.set I.len with z | ⟨z, _⟩
    · exact K.own a z
    · cases z
  | tmp d =>
    cases e
    obtain ⟨p, o, rfl, h0, h1, h2, h3, h4, h5⟩ := h
    refine ⟨I.set i (.inr ⟨rfl, p, o, rfl, h1, h2, h4, h5⟩) fun _ q eq j cj hj ej oj z => ?_, ⟨K.heap, K.grow, K.nof, fun a z => ?_, K.there⟩⟩
    · cases eq
      exact h3 ⟨j, cj, ej, oj, z⟩
    · rcases z.set I.len with z | ⟨_, z⟩
      · exact K.own a z
      · cases z
        exact .inr h0
def mSet {R : Type} (i : Nat) (ma : M R Vr) : MS R := fun s => (ma s).bind fun p => (hard p.1 p.2).bind fun q => (put i q.1 q.2).map fun s' => (.nx, s')
theorem tSet_of {i : Nat} {ma : M g.R.S Vr} {E : Ends} {σ : St} {H : Hp} (h : tS g (mSet i ma) E σ H) : tM g ma σ H fun x H1 => E.nx (σ.set i (some x)) H1 := by
  obtain ⟨F, s, fl, s', I, e, o⟩ := h
  unfold mSet at e
  obtain ⟨p, e1, e⟩ := Option.bind_eq_some_iff.mp e
  obtain ⟨q, e2, e⟩ := Option.bind_eq_some_iff.mp e
  obtain ⟨s2, e3, e⟩ := Option.map_eq_some_iff.mp e
  cases e
  refine ⟨F, s, p.1, p.2, I, e1, fun F1 v H1 I1 K1 w => ?_⟩
  obtain ⟨F2, I2, K2, w2, _⟩ := hard_ok I1 w e2
  have K12 := K1.trans K2 I2
  obtain ⟨I3, K3⟩ := put_ok I2 K12 w2 e3
  exact o F2 _ H1 I3 K3
theorem s_set {i : Nat} {x : Str} {e : Expr} {ma : M g.R.S Vr} {pos' pos : Pos} (hN : X.N.Nodup) (he : DE g X e ma) (hi : X.N[i]? = some x := by rfl) (hx : Loc X.env.scope x := by first | exact Or.inl rfl | exact Or.inr rfl) (hs : swapsWith e (some (.Name x pos')) pos.line X.env = pure false := by rfl)
    (hf : X.fn x = true ∨ X.env.scope.names.lookup x = some .local := by first | exact .inl rfl | exact .inr rfl | assumption) : DS g X (.Assign [.Name x pos'] e pos) (mSet i ma) :=
  PS.imp (ps_set hN hi hx he hs hf) fun E σ H h => tSet_of h
/-! ### a, b = x, y -/
theorem VOk.put {F : Hp} {s s' : S g.R.S} {σ : St} {H0 H : Hp} {i : Nat} {r r2 : Vr} {v v2 : V} (hl : s.e.length = σ.length) (h : VOk g F s σ H0 H r v) (h2 : VOk g F s σ H0 H r2 v2) (hne : ∀ d d2, r = .tmp d → r2 = .tmp d2 → v ≠ v2) (hs2 : ∀ i, r2 ≠ .sl i) (e : put i r s = some s') : VOk g F s' (σ.set i (some v)) H0 H r2 v2 := by
  cases r2 with
  | sl j => exact (hs2 j rfl).elim
  | sh d => exact h2
  | tmp d2 =>
    obtain ⟨p, o, rfl, a0, a1, a2, a3, a4, a5⟩ := h2
    refine ⟨p, o, rfl, a0, a1, a2, fun z => ?_, a4, a5⟩
    cases r with
    | sl j => cases e
    | sh d =>
      cases e
      rcases z.set hl with z | ⟨z, _⟩
      · exact a3 z
      · cases z
    | tmp d =>
      cases e
      rcases z.set hl with z | ⟨_, z⟩
      · exact a3 z
      · exact hne d d2 rfl rfl z
end
end RW
namespace RW
open PySem L2
section
variable {g : G} {X : Cx}
/-! ### several values that stay one's own -/
def NotIn (v : V) : List Vr → List V → Prop
  | r :: rs, u :: us => ((∃ d, r = .tmp d) → v ≠ u) ∧ NotIn v rs us
  | _, _ => True
def VAll (g : G) (F : Hp) (s : S g.R.S) (σ : St) (H0 H : Hp) : List Vr → List V → Prop
  | [], [] => True
  | r :: rs, v :: vs => VOk g F s σ H0 H r v ∧ (∀ i, r ≠ .sl i) ∧ ((∃ d, r = .tmp d) → NotIn v rs vs) ∧ VAll g F s σ H0 H rs vs
  | _, _ => False
def mHards {R : Type} : List (M R Vr) → M R (List Vr)
  | [] => fun s => some ([], s)
  | m :: ms => fun s => (m s).bind fun p => (hard p.1 p.2).bind fun p' => (mHards ms p'.2).map fun q => (p'.1 :: q.1, q.2)
def tMH (g : G) (n : Nat) (m : M g.R.S (List Vr)) : TA := fun σ H Q => ∃ F s rs s', Sim g F s σ H ∧ m s = some (rs, s') ∧
  ∀ F' vs H', Sim g F' s' σ H' → Keep g F s σ H F' s' σ H' → VAll g F' s' σ H H' rs vs → vs.length = n → Q vs H'
def DH (g : G) (X : Cx) (n : Nat) (es : List Expr) (m : M g.R.S (List Vr)) : Prop := PA X es (tMH g n m)
theorem h_nil : DH g X 0 [] (mHards []) := PA.imp pa_nil fun σ H Q ⟨F, s, rs, s', I, e, k⟩ => by
  cases e
  exact k F [] H I Keep.refl trivial rfl
theorem VAll.new {F : Hp} {s : S g.R.S} {σ : St} {H H1 : Hp} : ∀ {rs : List Vr} {vs : List V}, VAll g F s σ H H1 rs vs → ∀ {p : Addr} {o : HO}, H p = some o → NotIn (.ref p) rs vs
  | [], [], _, _, _, _ => trivial
  | r :: rs, v :: vs, h, p, o, e => by
    refine ⟨fun ⟨d, hr⟩ z => ?_, VAll.new h.2.2.2 e⟩
    have h1 := h.1
    rw [hr] at h1
    obtain ⟨q, o', r1, r2, _⟩ := h1
    rw [r1] at z; cases z
    rw [e] at r2; cases r2
  | [], _ :: _, h, _, _, _ => h.elim
  | _ :: _, [], h, _, _, _ => h.elim
theorem VAll.base {F F1 F' : Hp} {s s1 s' : S g.R.S} {σ σ1 : St} {H H1 H' : Hp} (K1 : Keep g F s σ1 H F1 s1 σ H1) : ∀ {rs : List Vr} {vs : List V}, VAll g F' s' σ H1 H' rs vs → VAll g F' s' σ H H' rs vs
  | [], [], _ => trivial
  | _ :: _, _ :: _, h => ⟨h.1.base K1, h.2.1, h.2.2.1, VAll.base K1 h.2.2.2⟩
  | [], _ :: _, h => h.elim
  | _ :: _, [], h => h.elim
theorem VOk.nosl {F : Hp} {s : S g.R.S} {σ : St} {H0 H : Hp} {r : Vr} {v : V} (h : VOk g F s σ H0 H r v) (d : D) (e : r = .tmp d) : ∃ p o, v = .ref p ∧ H p = some o := by
  subst e
  obtain ⟨p, o, r1, _, _, _, _, r6, _⟩ := h
  exact ⟨p, o, r1, r6⟩
theorem h_cons {e : Expr} {es : List Expr} {n : Nat} {m : M g.R.S Vr} {ms : List (M g.R.S Vr)} (ha : DE g X e m) (hr : DH g X n es (mHards ms)) (hs : starEach (e :: es) X.env = (false, eval e X.env) :: starEach es X.env := by rfl) : DH g X (n + 1) (e :: es) (mHards (m :: ms)) := by
  refine PA.imp (pa_cons ha hr hs) fun σ H Q ⟨F, s, rs, s', I, e, k⟩ => ?_
  unfold mHards at e
  obtain ⟨p, e1, e⟩ := Option.bind_eq_some_iff.mp e
  obtain ⟨p', e2, e⟩ := Option.bind_eq_some_iff.mp e
  obtain ⟨q, e3, e⟩ := Option.map_eq_some_iff.mp e
  cases e
  refine ⟨F, s, p.1, p.2, I, e1, fun F1 v H1 I1 K1 w => ?_⟩
  obtain ⟨F2, I2, K2, w2, n2⟩ := hard_ok I1 w e2
  have K12 := K1.trans K2 I2
  refine ⟨F2, _, q.1, q.2, I2, e3, fun F3 vs H3 I3 K3 w3 hl => ?_⟩
  refine k F3 (v :: vs) H3 I3 (K12.trans K3 I3) ⟨w2.keep K3, n2, fun ⟨d, hd⟩ => ?_, VAll.base K12 w3⟩ (by simp [hl])
  obtain ⟨a, o, rfl, e4⟩ := w2.nosl d hd
  exact VAll.new w3 e4
def puts {R : Type} : List Nat → List Vr → S R → Option (S R)
  | [], [], s => some s
  | i :: is, r :: rs, s => (put i r s).bind fun s1 => puts is rs s1
  | _, _, _ => none
def sets (σ : St) : List Nat → List V → St
  | i :: is, v :: vs => sets (σ.set i (some v)) is vs
  | _, _ => σ
theorem VAll.put {F : Hp} {s s' : S g.R.S} {σ : St} {H0 H : Hp} {i : Nat} {r : Vr} {v : V} (hl : s.e.length = σ.length) (h : VOk g F s σ H0 H r v) (e : put i r s = some s') : ∀ {rs : List Vr} {vs : List V}, VAll g F s σ H0 H rs vs → ((∃ d, r = .tmp d) → NotIn v rs vs) → VAll g F s' (σ.set i (some v)) H0 H rs vs
  | [], [], _, _ => trivial
  | r2 :: rs, v2 :: vs, w, hn => ⟨VOk.put hl h w.1 (fun d d2 z1 z2 => (hn ⟨d, z1⟩).1 ⟨d2, z2⟩) w.2.1 e, w.2.1, w.2.2.1, VAll.put hl h e w.2.2.2 fun z => (hn z).2⟩
  | [], _ :: _, w, _ => w.elim
  | _ :: _, [], w, _ => w.elim
theorem puts_ok {F F0 : Hp} {s0 : S g.R.S} {σ0 : St} {H0 H : Hp} : ∀ {is : List Nat} {rs : List Vr} {vs : List V} {s s' : S g.R.S} {σ : St}, Sim g F s σ H → Keep g F0 s0 σ0 H0 F s σ H → VAll g F s σ H0 H rs vs → puts is rs s = some s' → Sim g F s' (sets σ is vs) H ∧ Keep g F0 s0 σ0 H0 F s' (sets σ is vs) H
  | [], [], [], _, _, _, I, K, _, e => by cases e; exact ⟨I, K⟩
  | i :: is, r :: rs, v :: vs, s, s', σ, I, K, w, e => by
    obtain ⟨s1, e1, e⟩ := Option.bind_eq_some_iff.mp (show (put i r s).bind (fun s1 => puts is rs s1) = some s' from e)
    obtain ⟨I1, K1⟩ := put_ok I K w.1 e1
    exact puts_ok (is := is) I1 K1 (VAll.put I.len w.1 e1 w.2.2.2 w.2.2.1) e
  | [], [], _ :: _, _, _, _, _, _, w, _ => w.elim
  | _, _ :: _, [], _, _, _, _, _, w, _ => w.elim
  | [], _ :: _, _ :: _, _, _, _, _, _, _, e => by cases e
  | _ :: _, [], _, _, _, _, _, _, _, e => by cases e
def mPar {R : Type} (is : List Nat) (ms : List (M R Vr)) : MS R := fun s => (mHards ms s).bind fun p => (puts is p.1 p.2).map fun s' => (.nx, s')
/-- swapped: two or three plain names -/
theorem s_par2' {i j : Nat} {x y : Str} {a b : Expr} {ms : List (M g.R.S Vr)} {px py pt pos : Pos} {kt k2 pt2} (hc : X.calm = true) (hN : X.N.Nodup) (ha : DH g X 2 [a, b] (mHards ms))
    (hi : X.N[i]? = some x := by rfl) (hj : X.N[j]? = some y := by rfl) (hij : i ≠ j := by decide) (hx : X.env.scope.names.lookup x = some .local := by rfl) (hy : X.env.scope.names.lookup y = some .local := by rfl)
    (hw : swappedStores [.Tuple [.Name x px, .Name y py] kt pt] (.Tuple [a, b] k2 pt2) X.env = pure (some [x, y]) := by rfl)
    (hs : swapsWithSole [.Tuple [.Name x px, .Name y py] kt pt] (.Tuple [a, b] k2 pt2) pos.line X.env = pure false := by rfl) :
    DS g X (.Assign [.Tuple [.Name x px, .Name y py] kt pt] (.Tuple [a, b] k2 pt2) pos) (mPar [i, j] ms) := by
  refine PS.imp (ps_par hc hN hi hj hij hx hy ha hw hs) fun E σ H ⟨F, s, fl, s', I, e, o⟩ => ?_
  unfold mPar at e
  obtain ⟨p, e1, e⟩ := Option.bind_eq_some_iff.mp e
  obtain ⟨s2, e2, e⟩ := Option.map_eq_some_iff.mp e
  cases e
  refine ⟨F, s, p.1, p.2, I, e1, fun F1 vs H1 I1 K1 w hl => ?_⟩
  match vs, hl with
  | [v, u], _ =>
    obtain ⟨I3, K3⟩ := puts_ok I1 K1 w e2
    exact ⟨v, u, rfl, o F1 _ H1 I3 K3⟩
/-- names of a target list -/
def gNames : List Nat → TGs
  | [] => gNil
  | i :: is => gCons (gName i) (gNames is)
theorem gNames_ok : ∀ {is : List Nat} {vs : List V} {σ : St} {H : Hp} {Q : St → Hp → Prop}, is.length = vs.length → Q (sets σ is vs) H → gNames is vs σ H Q
  | [], [], _, _, _, _, q => ⟨rfl, q⟩
  | i :: is, v :: vs, σ, H, Q, e, q => ⟨v, vs, rfl, gNames_ok (is := is) (by simpa using e) q⟩
  | [], _ :: _, _, _, _, e, _ => by cases e
  | _ :: _, [], _, _, _, e, _ => by cases e
theorem VAll.ext {F F' : Hp} {s : S g.R.S} {σ : St} {H0 H H' : Hp} (x : Ext F H F' H') : ∀ {rs : List Vr} {vs : List V}, VAll g F s σ H0 H rs vs → VAll g F' s σ H0 H' rs vs
  | [], [], _ => trivial
  | _ :: _, _ :: _, h => ⟨h.1.keep (Keep.ext x), h.2.1, h.2.2.1, VAll.ext x h.2.2.2⟩
  | [], _ :: _, h => h.elim
  | _ :: _, [], h => h.elim
/-- by a tuple that is thrown away -/
theorem s_parT {ts es : List Expr} {n : Nat} {is : List Nat} {ms : List (M g.R.S Vr)} {pt pt2 pos : Pos} {kt k2} (hc : X.calm = true) (ha : DH g X n es (mHards ms)) (hg : PGs X ts (gNames is)) (hn : n ≤ sizeLine := by decide) (hi : is.length = n := by rfl)
    (hl : (assignEach ts X.env).length = n := by rfl) (hst : (assignEach ts X.env).findIdx? (·.1) = none := by rfl)
    (hs : swapsWithSole [.Tuple ts kt pt] (.Tuple es k2 pt2) pos.line X.env = pure false := by rfl) (hw : swappedStores [.Tuple ts kt pt] (.Tuple es k2 pt2) X.env = pure none := by rfl) :
    DS g X (.Assign [.Tuple ts kt pt] (.Tuple es k2 pt2) pos) (mPar is ms) := by
  refine PS.imp (ps_asg (pe_tup ha) (pg_tup hc hg hl hst) hs hw) fun E σ H ⟨F, s, fl, s', I, e, o⟩ => ?_
  unfold mPar at e
  obtain ⟨p, e1, e⟩ := Option.bind_eq_some_iff.mp e
  obtain ⟨s2, e2, e⟩ := Option.map_eq_some_iff.mp e
  cases e
  refine ⟨F, s, p.1, p.2, I, e1, fun F1 vs H1 I1 K1 w hl => ⟨by rw [hl]; exact hn, fun a ha => ?_⟩⟩
  have x : Ext F1 H1 F1 (upd H1 a (.tup vs)) := Ext.tmp I1.sub ha
  have I2 := I1.ext x
  obtain ⟨I3, K3⟩ := puts_ok I2 (K1.trans (Keep.ext x) I2) (VAll.ext x w) e2
  exact ⟨a, vs, rfl, SqT.of upd_same, hl, gNames_ok (by rw [hi, hl]) (o F1 _ _ I3 K3)⟩
theorem gs_nil : PGs X [] (gNames []) := pgs_nil
theorem gs_cons {x : Str} {pos : Pos} {es : List Expr} {i : Nat} {is : List Nat} (hN : X.N.Nodup) (h2 : PGs X es (gNames is)) (hi : X.N[i]? = some x := by rfl) (hx : Loc X.env.scope x := by first | exact Or.inl rfl | exact Or.inr rfl)
    (hf : X.fn x = true ∨ X.env.scope.names.lookup x = some .local := by first | exact .inl rfl | exact .inr rfl | assumption) : PGs X (.Name x pos :: es) (gNames (i :: is)) := pgs_cons (pg_name hN hi hx hf) h2
end
end RW
namespace RW
open PySem L2
/-- where one stands, as far as the rules want it -/
structure XO (g : G) (k : Nat) (X : Cx) : Prop where
  K : X.K = g.K
  rm : Room k X.A
  calm : X.calm = true
  nd : X.N.Nodup
  gd : X.A.guards = some []
  sy : ∃ u, X.base.get? sysModules = some u
theorem XO.blk {g : G} {k : Nat} {X : Cx} (o : XO g k X) {s : Shared} {H : Hp} {sc : Scope} {ce : Env} {fp : List Addr} : XO g k (X.blk s H sc ce fp) := ⟨o.K, o.rm, o.calm, o.nd, o.gd, o.sy⟩
theorem XO.hu {g : G} {k : Nat} {X : Cx} (o : XO g k X) : X.A.units + 1 < cLine := hu_of o.rm
theorem XO.hu64 {g : G} {k : Nat} {X : Cx} (o : XO g k X) : X.A.units + 64 < cLine := o.rm.units
theorem XO.mono {g : G} {j k : Nat} {X : Cx} (o : XO g k X) (h : j ≤ k) : XO g j X := ⟨o.K, o.rm.mono h, o.calm, o.nd, o.gd, o.sy⟩
section
variable {g : G} {X : Cx} {F H : Hp}
/-! ### what data tell of a value -/
theorem Pk.lst {v : V} {ds : List D} (h : Sub F H) (p : Pk g F H v (.lst ds)) : ∃ a xs, v = .ref a ∧ H a = some (.lst xs) ∧ RepAll g F xs ds := by
  rcases p with p | ⟨a, o, rfl, e, p⟩
  · cases p with
    | ref e q =>
      cases q with
      | lst q =>
        rcases h _ _ e with z | ⟨z, _⟩
        · exact ⟨_, _, rfl, z, q⟩
        · rcases z with ⟨_, z⟩ | ⟨_, z⟩ <;> cases z
  · cases p with
    | lst q => exact ⟨_, _, rfl, e, q⟩
theorem Pk.tup {v : V} {ds : List D} (h : Sub F H) (p : Pk g F H v (.tup ds)) : ∃ a xs, v = .ref a ∧ SqT g.K H a xs ∧ RepAll g F xs ds := by
  rcases p with p | ⟨a, o, rfl, e, p⟩
  · cases p with
    | ref e q => cases q
    | tup e q =>
      rcases h _ _ e with z | ⟨z, _⟩
      · exact ⟨_, _, rfl, SqT.of z, q⟩
      · rcases z with ⟨_, z⟩ | ⟨_, z⟩ <;> cases z
    | kt e q _ => exact ⟨_, _, rfl, .inr e, q⟩
  · cases p
theorem Pk.dK {v : V} {es : List (D × D)} (h : Sub F H) (p : Pk g F H v (.dct false es)) : ∃ a kvs, v = .ref a ∧ Rd H a (.dK kvs) ∧ RepK g F kvs es := by
  rcases p with p | ⟨a, o, rfl, e, p⟩
  · cases p with
    | ref e q =>
      cases q with
      | dK q =>
        rcases h _ _ e with z | ⟨_, ob, z⟩
        · exact ⟨_, _, rfl, .inl z, q⟩
        · exact ⟨_, _, rfl, .inr ⟨ob, z⟩, q⟩
  · cases p with
    | dK q => exact ⟨_, _, rfl, .inl e, q⟩
theorem Pk.dT {v : V} {es : List (D × D)} (h : Sub F H) (p : Pk g F H v (.dct true es)) : ∃ a kvs, v = .ref a ∧ Rd H a (.dT kvs) ∧ RepT g F kvs es := by
  rcases p with p | ⟨a, o, rfl, e, p⟩
  · cases p with
    | ref e q =>
      cases q with
      | dT q =>
        rcases h _ _ e with z | ⟨_, ob, z⟩
        · exact ⟨_, _, rfl, .inl z, q⟩
        · exact ⟨_, _, rfl, .inr ⟨ob, z⟩, q⟩
  · cases p with
    | dT q => exact ⟨_, _, rfl, .inl e, q⟩
theorem Pk.obj {v : V} {c : Nat} {ds : List (Str × D)} (h : Sub F H) (p : Pk g F H v (.obj c ds)) : ∃ a dx fs, v = .ref a ∧ H a = some (.ins (g.cls c) dx fs) ∧ RepF g F fs ds := by
  rcases p with p | ⟨a, o, rfl, e, p⟩
  · cases p with
    | ref e q =>
      cases q with
      | ins q =>
        rcases h _ _ e with z | ⟨z, _⟩
        · exact ⟨_, _, _, rfl, z, q⟩
        · rcases z with ⟨_, z⟩ | ⟨_, z⟩ <;> cases z
  · cases p with
    | ins q => exact ⟨_, _, _, rfl, e, q⟩
theorem Pk.non {v : V} (p : Pk g F H v .non) : v = .non := by
  rcases p with p | ⟨_, _, _, _, p⟩
  · cases p with
    | non => rfl
    | ref _ q => cases q
  · cases p
theorem Pk.bl {v : V} {b : Bool} (p : Pk g F H v (.bl b)) : v = .bl b := by
  rcases p with p | ⟨_, _, _, _, p⟩
  · cases p with
    | bl => rfl
    | ref _ q => cases q
  · cases p
theorem Pk.int {v : V} {i : Int} (p : Pk g F H v (.int i)) : v = .int i := by
  rcases p with p | ⟨_, _, _, _, p⟩
  · cases p with
    | int => rfl
    | ref _ q => cases q
  · cases p
theorem Pk.str {v : V} {x : Str} (p : Pk g F H v (.str x)) : v = .str x := by
  rcases p with p | ⟨_, _, _, _, p⟩
  · cases p with
    | str => rfl
    | ref _ q => cases q
  · cases p
theorem Pk.scr {v : V} {ns : List Int} (h : Sub F H) (p : Pk g F H v (.scr ns)) : ∃ a, v = .ref a ∧ SqL g.K H a (ns.map V.int) := by
  rcases p with p | ⟨a, o, rfl, e, p⟩
  · cases p with
    | kscr q => exact ⟨_, rfl, q H⟩
    | ref e q =>
      cases q with
      | scr =>
        rcases h _ _ e with z | ⟨z, _⟩
        · exact ⟨_, rfl, .inl (.inr ⟨_, z⟩)⟩
        · rcases z with ⟨_, z⟩ | ⟨_, z⟩ <;> cases z
  · cases p with
    | scr => exact ⟨_, rfl, .inl (.inr ⟨_, e⟩)⟩
/-! ### targets -/
inductive Tg where
  | nm (i : Nat) | tp (ts : List Tg)
mutual
def bindT : Tg → D → List (Option Cell) → Option (List (Option Cell))
  | .nm i, d, e => some (e.set i (some ⟨d, false⟩))
  | .tp ts, .tup ds, e => bindTs ts ds e
  | .tp ts, .lst ds, e => bindTs ts ds e
  | .tp _, _, _ => none
def bindTs : List Tg → List D → List (Option Cell) → Option (List (Option Cell))
  | [], [], e => some e
  | t :: ts, d :: ds, e => (bindT t d e).bind fun e' => bindTs ts ds e'
  | _, _, _ => none
end
theorem bindTs_len : ∀ {ts : List Tg} {ds : List D} {e e' : List (Option Cell)}, bindTs ts ds e = some e' → ts.length = ds.length
  | [], [], _, _, _ => rfl
  | _ :: ts, _ :: ds, e, e', h => by
    unfold bindTs at h
    obtain ⟨e1, _, h⟩ := Option.bind_eq_some_iff.mp h
    simp [bindTs_len h]
  | [], _ :: _, _, _, h => by unfold bindTs at h; cases h
  | _ :: _, [], _, _, h => by unfold bindTs at h; cases h
mutual
def tSlots : Tg → List Nat
  | .nm i => [i]
  | .tp ts => tSlotss ts
def tSlotss : List Tg → List Nat
  | [] => []
  | t :: ts => tSlots t ++ tSlotss ts
end
def tG (g : G) (T : Tg) : TG := fun v σ H Q => ∃ F s d e', Sim g F s σ H ∧ Rep g F v d ∧ bindT T d s.e = some e' ∧ ∀ σ', Sim g F { s with e := e' } σ' H → (∀ a, Own σ' e' a → Own σ s.e a) → (∀ j, j ∉ tSlots T → σ'[j]? = σ[j]?) → Q σ' H
def tGs (g : G) (Ts : List Tg) : TGs := fun vs σ H Q => ∃ F s ds e', Sim g F s σ H ∧ RepAll g F vs ds ∧ bindTs Ts ds s.e = some e' ∧ ∀ σ', Sim g F { s with e := e' } σ' H → (∀ a, Own σ' e' a → Own σ s.e a) → (∀ j, j ∉ tSlotss Ts → σ'[j]? = σ[j]?) → Q σ' H
theorem PG.imp {tg : Expr} {t t' : TG} (h : PG X tg t) (w : ∀ v σ H Q, t' v σ H Q → t v σ H Q) : PG X tg t' := ⟨fun pins s σ H v u Q I r q => h.run pins s σ H v u Q I r (w _ _ _ _ q)⟩
theorem PGs.imp {tg : List Expr} {t t' : TGs} (h : PGs X tg t) (w : ∀ v σ H Q, t' v σ H Q → t v σ H Q) : PGs X tg t' := ⟨fun pins s σ H vs us Q I r q => h.run pins s σ H vs us Q I r (w _ _ _ _ q)⟩
theorem PG.or {tg : Expr} {t t' : TG} (h : PG X tg t) (h' : PG X tg t') : PG X tg (fun v σ H Q => t v σ H Q ∨ t' v σ H Q) := ⟨fun pins s σ H v u Q I r q => q.elim (h.run pins s σ H v u Q I r) (h'.run pins s σ H v u Q I r)⟩
theorem g_name {x : Str} {pos : Pos} {i : Nat} (hN : X.N.Nodup) (hi : X.N[i]? = some x := by rfl) (hx : Loc X.env.scope x := by first | exact Or.inl rfl | exact Or.inr rfl)
    (hf : X.fn x = true ∨ X.env.scope.names.lookup x = some .local := by first | exact .inl rfl | exact .inr rfl | assumption) : PG X (.Name x pos) (tG g (.nm i)) := by
  refine PG.imp (pg_name hN hi hx hf) fun v σ H Q ⟨F, s, d, e', I, r, e, k⟩ => ?_
  cases e
  refine k _ (I.set i (.inl ⟨rfl, r⟩) (fun z => nomatch z)) (fun a z => ?_) (fun j hj => List.getElem?_set_ne fun z => hj (by simp [tSlots, z]))
  rcases z.set I.len with z | ⟨z, _⟩
  · exact z
  · cases z
theorem ts_nil : PGs X [] (tGs g []) := PGs.imp pgs_nil fun vs σ H Q ⟨F, s, ds, e', I, r, e, k⟩ => by
  cases r with
  | nil => cases e; exact ⟨rfl, k σ I (fun _ h => h) fun _ _ => rfl⟩
  | cons _ _ => cases e
theorem ts_cons {e : Expr} {es : List Expr} {T : Tg} {Ts : List Tg} (h1 : PG X e (tG g T)) (h2 : PGs X es (tGs g Ts)) (hs : (assignEach (e :: es) X.env).map (·.2) = assign e X.env :: (assignEach es X.env).map (·.2) := by rfl) : PGs X (e :: es) (tGs g (T :: Ts)) := by
  refine PGs.imp (pgs_cons h1 h2 hs) fun vs σ H Q ⟨F, s, ds, e', I, r, e, k⟩ => ?_
  cases r with
  | nil => unfold bindTs at e; cases e
  | cons r1 r2 =>
    unfold bindTs at e
    obtain ⟨e1, h1, e⟩ := Option.bind_eq_some_iff.mp e
    exact ⟨_, _, rfl, F, s, _, e1, I, r1, h1, fun σ1 I1 o1 f1 => ⟨F, _, _, e', I1, r2, e, fun σ2 I2 o2 f2 => k σ2 I2 (fun a z => o1 a (o2 a z)) fun j hj => by
      simp only [tSlotss, List.mem_append, not_or] at hj
      rw [f2 j hj.2, f1 j hj.1]⟩⟩
theorem g_tup {es : List Expr} {kk : Nat} {pos : Pos} {Ts : List Tg} {n k : Nat} (o : XO g k X) (h : PGs X es (tGs g Ts)) (hn : (assignEach es X.env).length = n := by rfl) (hst : (assignEach es X.env).findIdx? (·.1) = none := by rfl) (hT : Ts.length = n := by rfl) :
    PG X (.Tuple es kk pos) (tG g (.tp Ts)) := by
  refine PG.imp (PG.or (pg_tup o.calm h hn hst) (pg_unl o.calm h hn hst)) fun v σ H Q ⟨F, s, d, e', I, r, e, k⟩ => ?_
  cases d with
  | tup ds =>
    unfold bindT at e
    obtain ⟨a, xs, rfl, q, r⟩ := Pk.tup I.sub (.inl r)
    exact .inl ⟨a, xs, rfl, by rw [o.K]; exact q, by rw [r.length, ← bindTs_len e, hT], F, s, ds, e', I, r, e, k⟩
  | lst ds =>
    unfold bindT at e
    obtain ⟨a, xs, rfl, q, r⟩ := Pk.lst I.sub (.inl r)
    exact .inr ⟨a, xs, rfl, SqL.of q, by rw [r.length, ← bindTs_len e, hT], F, s, ds, e', I, r, e, k⟩
  | _ => cases e
/-! a, b = e -/
def mUnp {R : Type} (T : Tg) (ma : M R Vr) : MS R := fun s => (ma s).bind fun p => (esc (soft p.1) p.2).bind fun q => (bindT T q.1 q.2.e).map fun e' => (.nx, { q.2 with e := e' })
theorem Keep.bind {F F0 : Hp} {s s0 : S g.R.S} {σ σ0 σ' : St} {H H0 : Hp} {e' : List (Option Cell)} (K : Keep g F0 s0 σ0 H0 F s σ H) (ow : ∀ a, Own σ' e' a → Own σ s.e a) : Keep g F0 s0 σ0 H0 F { s with e := e' } σ' H := ⟨K.heap, K.grow, K.nof, fun a z => K.own a (ow a z), K.there⟩
theorem s_unp {tg e : Expr} {T : Tg} {ma : M g.R.S Vr} {pos : Pos} (he : DE g X e ma) (hg : PG X tg (tG g T)) (hs : swapsWithSole [tg] e pos.line X.env = pure false := by rfl) (hw : swappedStores [tg] e X.env = pure none := by rfl) (h1 : (assignEach [tg] X.env).map (·.2) = [assign tg X.env] := by rfl) : DS g X (.Assign [tg] e pos) (mUnp T ma) := by
  refine PS.imp (ps_asg he hg hs hw h1) fun E σ H ⟨F, s, fl, s', I, e, o⟩ => ?_
  unfold mUnp at e
  obtain ⟨p, e1, e⟩ := Option.bind_eq_some_iff.mp e
  obtain ⟨q, e2, e⟩ := Option.bind_eq_some_iff.mp e
  obtain ⟨e', e3, e⟩ := Option.map_eq_some_iff.mp e
  cases e
  refine tM_soft I e1 fun F1 v H1 I1 K1 w => ?_
  obtain ⟨F2, I2, K2, r2⟩ := esc_ok I1 w e2
  exact ⟨F2, q.2, q.1, e', I2, r2, e3, fun σ' I3 ow _ => o F2 σ' H1 I3 ((K1.trans K2 I2).bind ow)⟩
end
end RW
namespace RW
open PySem L2
section
variable {g : G} {X : Cx}
/-! ### locks are taken off behind a statement, an expression -/
def Ul (X : Cx) (P : Hp → Prop) (H : Hp) : Prop := P H ∨ ∃ d od u, H d = some (.frz od u) ∧ (∀ o' u', X.H_0 d ≠ some (.frz o' u')) ∧ P (upd H d u)
def unE (X : Cx) (E : Ends) : Ends := ⟨fun σ H => Ul X (E.nx σ) H, fun v H => Ul X (E.rt v) H, fun σ H => Ul X (E.bk σ) H, fun σ H => Ul X (E.ct σ) H⟩
theorem Ul.inv {pins : List (Addr × Obj)} {σ : St} {H : Hp} {s : Shared} {P : Hp → Prop} (I : Inv X pins σ H s) (h : Ul X P H) : ∃ H', Inv X pins σ H' s ∧ P H' := by
  rcases h with h | ⟨d, od, u, e, n, h⟩
  · exact ⟨H, I, h⟩
  · exact ⟨_, I.unlock e n, h⟩
theorem ps_un {st : Stmt} {t : TS} (h : PS X st t) : PS X st (fun E σ H => t (unE X E) σ H) := by
  refine ⟨fun pins s σ H E I hw => thn (h.run pins s σ H _ I hw) fun f s1 q => ?_⟩
  cases f with
  | next => obtain ⟨σ', H', I2, q⟩ := q; obtain ⟨H2, I3, q⟩ := Ul.inv I2 q; exact ⟨σ', H2, I3, q⟩
  | brk => obtain ⟨σ', H', I2, q⟩ := q; obtain ⟨H2, I3, q⟩ := Ul.inv I2 q; exact ⟨σ', H2, I3, q⟩
  | cont => obtain ⟨σ', H', I2, q⟩ := q; obtain ⟨H2, I3, q⟩ := Ul.inv I2 q; exact ⟨σ', H2, I3, q⟩
  | ret v => obtain ⟨x, σ', H', I2, r, q⟩ := q; obtain ⟨H2, I3, q⟩ := Ul.inv I2 q; exact ⟨x, σ', H2, I3, r, q⟩
theorem pe_un' {e : Expr} {t : TE} (h : PE X e t) : PE X e (fun σ H Q => t σ H fun v H' => Ul X (Q v) H') := by
  refine ⟨fun pins s σ H Q I hw => thn (h.run pins s σ H _ I hw) fun v s1 ⟨x, H1, I2, r, q⟩ => ?_⟩
  obtain ⟨H2, I3, q⟩ := Ul.inv I2 q
  exact ⟨x, H2, I3, r, q⟩
/-! ### what is walked -/
structure IterOk (g : G) (F1 H1 : Hp) (J : It) (ds : List D) : Prop where
  go : ∀ F2 H2, Le F1 F2 → Sub F2 H2 → (∀ a u o, F1 a = some u → H1 a = some o → H2 a = some o) → ∀ (i : Nat) (d : D), ds[i]? = some d → J.go i H2 ∧ ∀ x H3, J.yld i H2 x H3 → ∃ F3, Ext F2 H2 F3 H3 ∧ Rep g F3 x d
  stop : ∀ F2 H2, Le F1 F2 → Sub F2 H2 → (∀ a u o, F1 a = some u → H1 a = some o → H2 a = some o) → J.stop ds.length H2
def Locked (X : Cx) (F1 H1 HL : Hp) : Prop := HL = H1 ∨ ∃ d u od, F1 d = some u ∧ IsDict u ∧ H1 d = some u ∧ HL = upd H1 d (.frz od u) ∧ ∀ o' u', X.H_0 d ≠ some (.frz o' u')
def tI (g : G) (X : Cx) (mi : M g.R.S (List D)) : TI := fun σ H R => ∃ F s ds s', Sim g F s σ H ∧ mi s = some (ds, s') ∧
  ∀ F1 H1 HL J, Sim g F1 s' σ H1 → Keep g F s σ H F1 s' σ H1 → Locked X F1 H1 HL → IterOk g F1 HL J ds → R J HL
def DI (g : G) (X : Cx) (tg iter : Expr) (mi : M g.R.S (List D)) : Prop := PI X tg iter (tI g X mi)
theorem PI.imp {tg iter : Expr} {t t' : TI} (h : PI X tg iter t) (w : ∀ σ H R, t' σ H R → t σ H R) : PI X tg iter t' := ⟨fun pins s σ H R I q => h.run pins s σ H R I (w _ _ _ q)⟩
theorem PI.or {tg iter : Expr} {t t' : TI} (h : PI X tg iter t) (h' : PI X tg iter t') : PI X tg iter (fun σ H R => t σ H R ∨ t' σ H R) := ⟨fun pins s σ H R I q => q.elim (h.run pins s σ H R I) (h'.run pins s σ H R I)⟩
/-- the locked heap serves as well -/
theorem Sim.lock {F H HL : Hp} {s : S g.R.S} {σ : St} (I : Sim g F s σ H) (l : Locked X F H HL) : Sim g F s σ HL := by
  rcases l with rfl | ⟨d, u, od, h1, h2, h3, rfl, _⟩
  · exact I
  · have nf : ¬ g.R.foot d := fun z => by rw [I.foot d z] at h1; cases h1
    refine ⟨fun a o e => ?_, g.R.stay I.at_ fun a ha => upd_ne (fun (z : a = d) => nf (by rw [← z]; exact ha)), I.foot, I.len, fun i c e => ?_, I.apart⟩
    · by_cases z : a = d
      · subst z
        rw [h1] at e; cases e
        exact .inr ⟨h2, od, upd_same⟩
      · rw [upd_ne z]; exact I.sub a o e
    · obtain ⟨v, e1, q⟩ := I.cell i c e
      refine ⟨v, e1, ?_⟩
      rcases q with ⟨a, b⟩ | ⟨a, p, o, b1, b2, b3, b4, b5⟩
      · exact .inl ⟨a, b⟩
      · refine .inr ⟨a, p, o, b1, b2, b3, ?_, b5⟩
        rw [upd_ne (fun z => by rw [z, h1] at b2; cases b2)]; exact b4
/-- .. and behind it the lock is taken off -/
theorem Sim.unlock {F F1 F' H H1 HL H' : Hp} {s s1 s' : S g.R.S} {σ σ1 σ' : St} {P : Hp → Prop} (I1 : Sim g F1 s1 σ1 H1) (K1 : Keep g F s σ H F1 s1 σ1 H1) (l : Locked X F1 H1 HL) (I : Sim g F' s' σ' H') (K : Keep g F1 s1 σ1 HL F' s' σ' H')
    (o : ∀ H2, (∀ a x, F' a = none → H' a = some x → H2 a = some x) → Sim g F' s' σ' H2 → Keep g F s σ H F' s' σ' H2 → P H2) : Ul X P H' := by
  rcases l with rfl | ⟨d, u, od, h1, h2, h3, rfl, h5⟩
  · exact .inl (o H' (fun _ _ _ h => h) I (K1.trans K I))
  · have nf : ¬ g.R.foot d := fun z => by rw [I1.foot d z] at h1; cases h1
    have no : ¬ Own σ1 s1.e d := fun z => by rw [(I1.own_at z).1] at h1; cases h1
    have hd : H' d = some (.frz od u) := K.heap d _ upd_same no nf
    have f' : F' d = some u := K.grow _ _ h1
    refine .inr ⟨d, od, u, hd, h5, ?_⟩
    have I2 : Sim g F' s' σ' (upd H' d u) := by
      refine ⟨fun a x e => ?_, g.R.stay I.at_ fun a ha => upd_ne (fun (z : a = d) => nf (by rw [← z]; exact ha)), I.foot, I.len, fun i c e => ?_, I.apart⟩
      · by_cases z : a = d
        · subst z
          rw [f'] at e; cases e
          exact .inl upd_same
        · rw [upd_ne z]; exact I.sub a x e
      · obtain ⟨v, e1, q⟩ := I.cell i c e
        refine ⟨v, e1, ?_⟩
        rcases q with ⟨a, b⟩ | ⟨a, p, o, b1, b2, b3, b4, b5⟩
        · exact .inl ⟨a, b⟩
        · refine .inr ⟨a, p, o, b1, b2, b3, ?_, b5⟩
          rw [upd_ne (fun z => by rw [z, f'] at b2; cases b2)]; exact b4
    have K2 : Keep g F1 s1 σ1 H1 F' s' σ' (upd H' d u) := by
      refine ⟨fun a x e n nf' => ?_, K.grow, fun a x e nt r n => ?_, fun a z => ?_, fun a x e => ?_⟩
      · by_cases z : a = d
        · subst z; rw [h3] at e; cases e; exact upd_same
        · rw [upd_ne z]; exact K.heap a x (by rw [upd_ne z]; exact e) n nf'
      · have z : a ≠ d := fun z => by rw [z, h1] at r; cases r
        exact K.nof a x (by rw [upd_ne z]; exact e) nt r n
      · rcases K.own a z with z | z
        · exact .inl z
        · by_cases y : a = d
          · subst y; rw [upd_same] at z; cases z
          · rw [upd_ne y] at z; exact .inr z
      · by_cases z : a = d
        · subst z; exact ⟨_, upd_same⟩
        · rw [upd_ne z]; exact K.there a x (by rw [upd_ne z]; exact e)
    exact o _ (fun a x n e => by rw [upd_ne (fun z => by rw [z, f'] at n; cases n)]; exact e) I2 (K1.trans K2 I2)
def forL {R : Type} (T : Tg) (mb : MS R) : List D → MS R
  | [] => fun s => some (.nx, s)
  | d :: ds => fun s => (bindT T d s.e).bind fun e' => (mb { s with e := e' }).bind fun p => match p.1 with
    | .nx => forL T mb ds p.2
    | .ct => forL T mb ds p.2
    | .bk => some (.nx, p.2)
    | .rt v => some (.rt v, p.2)
def mFor {R : Type} (mi : M R (List D)) (T : Tg) (mb : MS R) : MS R := fun s => (mi s).bind fun p => forL T mb p.1 p.2
theorem Keep.pres {F1 F2 H1 H2 : Hp} {s1 s2 : S g.R.S} {σ1 σ2 : St} (I1 : Sim g F1 s1 σ1 H1) (K : Keep g F1 s1 σ1 H1 F2 s2 σ2 H2) : ∀ a u o, F1 a = some u → H1 a = some o → H2 a = some o := fun a u o e1 e2 =>
  K.heap a o e2 (fun z => by rw [(I1.own_at z).1] at e1; cases e1) (fun z => by rw [I1.foot a z] at e1; cases e1)
theorem XOk.heap {F : Hp} {σ0 : St} {e0 : List (Option Cell)} {H0 H H2 : Hp} {res : Vr} {v : V} (h : XOk g F σ0 e0 H0 H res v) (k : ∀ a x, F a = none → H a = some x → H2 a = some x) : XOk g F σ0 e0 H0 H2 res v := by
  cases res with
  | sh d => exact h
  | sl i => exact h
  | tmp d =>
    obtain ⟨p, o, r1, r2, r3, r4, r5, r6⟩ := h
    exact ⟨p, o, r1, r2, r3, r4, k _ _ r3 r5, r6⟩
theorem XOk.lock {F F1 H1 HL H : Hp} {σ0 : St} {e0 : List (Option Cell)} {res : Vr} {v : V} (l : Locked X F1 H1 HL) (h : XOk g F σ0 e0 HL H res v) : XOk g F σ0 e0 H1 H res v := by
  cases res with
  | sh d => exact h
  | sl i => exact h
  | tmp d =>
    obtain ⟨p, o, r1, r2, r⟩ := h
    refine ⟨p, o, r1, ?_, r⟩
    rcases r2 with r2 | r2
    · exact .inl r2
    · right
      rcases l with rfl | ⟨d, u, od, h1, h2, h3, rfl, _⟩
      · exact r2
      · by_cases z : p = d
        · subst z; rw [upd_same] at r2; cases r2
        · rw [upd_ne z] at r2; exact r2
theorem s_for {tg iter : Expr} {body : List Stmt} {mi : M g.R.S (List D)} {T : Tg} {mb : MS g.R.S} {pos : Pos} (hp : PassesOwn (model X.prog X.w) X.A X.env X.xe) (hc : X.calm = true) (hi : DI g X tg iter mi) (hg : PG X tg (tG g T)) (hb : DB g X body mb)
    (hs : ∀ x, foldedSetIterable iter X.env x = pure x := by intro _; rfl) : DS g X (.For tg iter body [] pos) (mFor mi T mb) := by
  refine PS.imp (ps_un (ps_for hp hc hi hg hb hs)) fun E σ H ⟨F, s, fl, sf, I, e, o⟩ => ?_
  unfold mFor at e
  obtain ⟨⟨ds, s1⟩, e1, e⟩ := Option.bind_eq_some_iff.mp e
  refine ⟨F, s, ds, s1, I, e1, fun F1 H1 HL J I1 K1 l it => ?_⟩
  have IL := I1.lock l
  -- the ends, the lock taken off
  have endN : ∀ {F' : Hp} {s' : S g.R.S} {σ' : St} {H' : Hp}, fl = .nx → sf = s' → Sim g F' s' σ' H' → Keep g F1 s1 σ HL F' s' σ' H' → (unE X E).nx σ' H' := fun {F' s' σ' H'} h1 h2 I' K' => by
    subst h1; subst h2
    exact Sim.unlock I1 K1 l I' K' fun H2 _ I2 K2 => o F' σ' H2 I2 K2
  refine ⟨fun i m σ' H' => m = ds.length - i ∧ i ≤ ds.length ∧ ∃ F' s', Sim g F' s' σ' H' ∧ Keep g F1 s1 σ HL F' s' σ' H' ∧ forL T mb (ds.drop i) s' = some (fl, sf), ⟨_, rfl, Nat.zero_le _, F1, s1, IL, Keep.refl, by simpa using e⟩, ?_⟩
  rintro i m σ2 H2 ⟨rfl, hi, F2, s2, I2, K2, e2⟩
  have pr := Keep.pres IL K2
  by_cases hlt : i < ds.length
  · have hd : ds[i]? = some ds[i] := List.getElem?_eq_getElem hlt
    obtain ⟨go, yl⟩ := it.go F2 H2 K2.grow I2.sub pr i _ hd
    rw [List.drop_eq_getElem_cons hlt] at e2
    unfold forL at e2
    obtain ⟨e', e3, e2⟩ := Option.bind_eq_some_iff.mp e2
    obtain ⟨⟨f, s3⟩, e4, e2⟩ := Option.bind_eq_some_iff.mp e2
    refine .inr ⟨go, fun σ' H' => ∃ F' s', (f = .nx ∨ f = .ct) ∧ s3 = s' ∧ Sim g F' s' σ' H' ∧ Keep g F1 s1 σ HL F' s' σ' H', fun σ' H' ⟨F', s', hf, hs, I', K'⟩ => ?_, fun x H3 hy => ?_⟩
    · refine ⟨ds.length - (i + 1), by omega, rfl, hlt, F', s', I', K', ?_⟩
      subst hs
      rcases hf with rfl | rfl <;> exact e2
    · obtain ⟨F3, x3, r3⟩ := yl x H3 hy
      have I3 := I2.ext x3
      have K3 := K2.trans (Keep.ext x3) I3
      refine ⟨F3, s2, _, e', I3, r3, e3, fun σ4 I4 ow _ => ⟨F3, _, f, s3, I4, e4, ?_⟩⟩
      have K4 := K3.bind ow
      cases f with
      | nx => exact fun F' σ' H' I' K' => ⟨F', s3, .inl rfl, rfl, I', K4.trans K' I'⟩
      | ct => exact fun F' σ' H' I' K' => ⟨F', s3, .inr rfl, rfl, I', K4.trans K' I'⟩
      | bk =>
        have e2 : some (Fl.nx, s3) = some (fl, sf) := e2
        cases e2
        exact fun F' σ' H' I' K' => endN rfl rfl I' (K4.trans K' I')
      | rt res =>
        have e2 : some (Fl.rt res, s3) = some (fl, sf) := e2
        cases e2
        intro F' σ' v H' I' K' w
        have K5 := K4.trans K' I'
        have w' := XOk.lock l (XOk.base K4 w)
        exact Sim.unlock I1 K1 l I' K5 fun H2 hk I2 K2 => o F' σ' v H2 I2 K2 ((w'.heap hk).base K1)
  · have e' : i = ds.length := by omega
    subst e'
    rw [List.drop_length] at e2
    cases e2
    exact .inl ⟨it.stop F2 H2 K2.grow I2.sub pr, endN rfl rfl I2 K2⟩
end
end RW
namespace RW
open PySem L2
section
variable {g : G} {X : Cx}
/-! ### while -/
def whL {R : Type} (mc : M R Vr) (mb : MS R) : Nat → MS R
  | 0 => fun _ => none
  | n + 1 => fun s => (mc s).bind fun p => match p.1 with
    | .sh (.bl true) => (mb p.2).bind fun q => (match q.1 with
      | .nx => whL mc mb n q.2
      | .ct => whL mc mb n q.2
      | .bk => some (.nx, q.2)
      | .rt v => some (.rt v, q.2))
    | .sh (.bl false) => some (.nx, p.2)
    | _ => none
@[irreducible] def wfuel : Nat := 1000000
def mWhile {R : Type} (mc : M R Vr) (mb : MS R) : MS R := whL mc mb wfuel
theorem whL_inv {mc : M g.R.S Vr} {mb : MS g.R.S} {n : Nat} {s : S g.R.S} {x : Fl × S g.R.S} (e : whL mc mb (n + 1) s = some x) : ∃ b s', mc s = some (.sh (.bl b), s') ∧ (if b = true then ((mb s').bind fun q => (match q.1 with
      | .nx => whL mc mb n q.2
      | .ct => whL mc mb n q.2
      | .bk => some (.nx, q.2)
      | .rt v => some (.rt v, q.2))) = some x else (Fl.nx, s') = x) := by
  obtain ⟨b, s', e1, e2⟩ := first_bl (F := fun v s' => match v with
    | .sh (.bl true) => (mb s').bind fun q => (match q.1 with
      | .nx => whL mc mb n q.2
      | .ct => whL mc mb n q.2
      | .bk => some (Fl.nx, q.2)
      | .rt v => some (.rt v, q.2))
    | .sh (.bl false) => some (.nx, s')
    | _ => none) (ma := mc) (s := s) (x := x) e (fun v s' h => by
      cases v with
      | sh d => cases d with
        | bl b => exact ⟨b, rfl⟩
        | _ => cases h
      | _ => cases h)
  refine ⟨b, s', e1, ?_⟩
  cases b with
  | true => exact e2
  | false => exact Option.some.inj e2
theorem s_while {c : Expr} {body : List Stmt} {mc : M g.R.S Vr} {mb : MS g.R.S} {pos : Pos} (hp : PassesOwn (model X.prog X.w) X.A X.env X.xe) (hc : DT g X c mc) (hb : DB g X body mb) : DS g X (.While c body [] pos) (mWhile mc mb) := by
  refine PS.imp (ps_while hp hc hb) fun E σ H ⟨F, s, fl, sf, I, e, o⟩ => ?_
  refine ⟨fun m σ' H' => ∃ F' s', Sim g F' s' σ' H' ∧ Keep g F s σ H F' s' σ' H' ∧ whL mc mb m s' = some (fl, sf), ⟨wfuel, F, s, I, Keep.refl, e⟩, ?_⟩
  rintro m σ1 H1 ⟨F1, s1, I1, K1, e1⟩
  cases m with
  | zero => cases e1
  | succ n =>
    obtain ⟨b, s2, e2, e3⟩ := whL_inv e1
    refine ⟨F1, s1, b, s2, I1, e2, fun F2 H2 I2 K2 => ?_⟩
    have K12 := K1.trans K2 I2
    cases b with
    | false =>
      rw [if_neg Bool.false_ne_true] at e3
      cases e3
      exact iteF (o F2 σ1 H2 I2 K12)
    | true =>
      rw [if_pos rfl] at e3
      obtain ⟨⟨f, s3⟩, e4, e5⟩ := Option.bind_eq_some_iff.mp e3
      refine iteT ?_
      refine ⟨fun σ' H' => ∃ F' s', (f = .nx ∨ f = .ct) ∧ s3 = s' ∧ Sim g F' s' σ' H' ∧ Keep g F s σ H F' s' σ' H', fun σ' H' ⟨F', s', hf, hs, I', K'⟩ => ?_, F2, s2, f, s3, I2, e4, ?_⟩
      · subst hs
        refine ⟨n, Nat.lt_succ_self n, F', s3, I', K', ?_⟩
        rcases hf with rfl | rfl <;> exact e5
      · cases f with
        | nx => exact fun F' σ' H' I' K' => ⟨F', s3, .inl rfl, rfl, I', K12.trans K' I'⟩
        | ct => exact fun F' σ' H' I' K' => ⟨F', s3, .inr rfl, rfl, I', K12.trans K' I'⟩
        | bk =>
          have e5 : some (Fl.nx, s3) = some (fl, sf) := e5
          cases e5
          exact fun F' σ' H' I' K' => o F' σ' H' I' (K12.trans K' I')
        | rt res =>
          have e5 : some (Fl.rt res, s3) = some (fl, sf) := e5
          cases e5
          exact fun F' σ' v H' I' K' w => o F' σ' v H' I' (K12.trans K' I') (w.base K12)
/-! ### iterators -/
theorem RepAll.get {F : Hp} : ∀ {xs : List V} {ds : List D} {i : Nat} {d : D}, RepAll g F xs ds → ds[i]? = some d → ∃ x, xs[i]? = some x ∧ Rep g F x d
  | _, _, _, _, .nil, e => by cases e
  | _, _, 0, _, .cons h _, e => by cases e; exact ⟨_, rfl, h⟩
  | _, _, i + 1, _, .cons _ t, e => by
    obtain ⟨x, h1, h2⟩ := RepAll.get (i := i) t (by simpa using e)
    exact ⟨x, by simpa using h1, h2⟩
theorem Sub.at_ {F H : Hp} (h : Sub F H) {a : Addr} {o : HO} (e : F a = some o) (n : ¬ IsDict o) : H a = some o := by
  rcases h a o e with z | ⟨z, _⟩
  · exact z
  · exact (n z).elim
theorem nd_lst {xs : List V} : ¬ IsDict (.lst xs) := fun z => by rcases z with ⟨_, z⟩ | ⟨_, z⟩ <;> cases z
theorem nd_tup {xs : List V} : ¬ IsDict (.tup xs) := fun z => by rcases z with ⟨_, z⟩ | ⟨_, z⟩ <;> cases z
/-- a tuple that is read in F -/
def TupIn (g : G) (F : Hp) (a : Addr) (xs : List V) : Prop := F a = some (.tup xs) ∨ KTup g.K a xs
theorem TupIn.sq {F H : Hp} {a : Addr} {xs : List V} (h : TupIn g F a xs) (s : Sub F H) : SqT g.K H a xs := by
  rcases h with h | h
  · exact SqT.of (s.at_ h nd_tup)
  · exact .inr h
theorem TupIn.mono {F F' : Hp} {a : Addr} {xs : List V} (h : TupIn g F a xs) (le : Le F F') : TupIn g F' a xs := h.elim (fun h => .inl (le _ _ h)) .inr
theorem Rep.tupIn {F : Hp} {v : V} {ds : List D} (h : Rep g F v (.tup ds)) : ∃ a xs, v = .ref a ∧ TupIn g F a xs ∧ RepAll g F xs ds := by
  cases h with
  | ref _ q => cases q
  | tup e q => exact ⟨_, _, rfl, .inl e, q⟩
  | kt e q _ => exact ⟨_, _, rfl, .inr e, q⟩
theorem Rep.lstIn {F : Hp} {v : V} {ds : List D} (h : Rep g F v (.lst ds)) : ∃ a xs, v = .ref a ∧ F a = some (.lst xs) ∧ RepAll g F xs ds := by
  cases h with
  | ref e q => cases q with
    | lst q => exact ⟨_, _, rfl, e, q⟩
theorem Rep.dKIn {F : Hp} {v : V} {es : List (D × D)} (h : Rep g F v (.dct false es)) : ∃ a kvs, v = .ref a ∧ F a = some (.dK kvs) ∧ RepK g F kvs es := by
  cases h with
  | ref e q => cases q with
    | dK q => exact ⟨_, _, rfl, e, q⟩
theorem Rep.dTIn {F : Hp} {v : V} {es : List (D × D)} (h : Rep g F v (.dct true es)) : ∃ a kvs, v = .ref a ∧ F a = some (.dT kvs) ∧ RepT g F kvs es := by
  cases h with
  | ref e q => cases q with
    | dT q => exact ⟨_, _, rfl, e, q⟩
theorem it_list {F H : Hp} {a : Addr} {xs : List V} {ds : List D} (e : F a = some (.lst xs)) (r : RepAll g F xs ds) : IterOk g F H (Itl g.K a) ds := by
  refine ⟨fun F2 H2 le s _ i d hd => ?_, fun F2 H2 le s _ => ⟨xs, SqL.of (s.at_ (le _ _ e) nd_lst), by rw [r.length]; exact Nat.le_refl _⟩⟩
  have h2 : H2 a = some (.lst xs) := s.at_ (le _ _ e) nd_lst
  obtain ⟨x, h3, h4⟩ := r.get hd
  refine ⟨⟨xs, x, SqL.of h2, h3⟩, fun y H3 ⟨eq, hy⟩ => ?_⟩
  subst eq
  have := hy xs (SqL.of h2)
  rw [h3] at this; cases this
  exact ⟨F2, Ext.refl s, h4.mono le⟩
theorem it_scr {F H : Hp} {a : Addr} {ns : List Int} (e : ∀ F2 H2, Le F F2 → Sub F2 H2 → SqL g.K H2 a (ns.map V.int)) : IterOk g F H (Itl g.K a) (ns.map .int) := by
  refine ⟨fun F2 H2 le s _ i d hd => ?_, fun F2 H2 le s _ => ⟨ns.map V.int, e F2 H2 le s, by simp⟩⟩
  have h2 := e F2 H2 le s
  rw [List.getElem?_map] at hd
  obtain ⟨n, hn, rfl⟩ := Option.map_eq_some_iff.mp hd
  have h3 : (ns.map V.int)[i]? = some (.int n) := by rw [List.getElem?_map, hn]; rfl
  refine ⟨⟨ns.map V.int, .int n, h2, h3⟩, fun y H3 ⟨eq, hy⟩ => ?_⟩
  subst eq
  have := hy _ h2
  rw [h3] at this; cases this
  exact ⟨F2, Ext.refl s, .int n⟩
theorem Rep.scrIn {F : Hp} {v : V} {ns : List Int} (h : Rep g F v (.scr ns)) : ∃ a, v = .ref a ∧ ∀ F2 H2, Le F F2 → Sub F2 H2 → SqL g.K H2 a (ns.map V.int) := by
  cases h with
  | kscr q => exact ⟨_, rfl, fun _ H2 _ _ => q H2⟩
  | ref e q =>
    cases q with
    | scr =>
      refine ⟨_, rfl, fun F2 H2 le s => ?_⟩
      rcases s _ _ (le _ _ e) with z | ⟨z, _⟩
      · exact .inl (.inr ⟨_, z⟩)
      · rcases z with ⟨_, z⟩ | ⟨_, z⟩ <;> cases z
theorem it_tup {F H : Hp} {a : Addr} {xs : List V} {ds : List D} (e : TupIn g F a xs) (r : RepAll g F xs ds) : IterOk g F H (Itt g.K a) ds := by
  refine ⟨fun F2 H2 le s _ i d hd => ?_, fun F2 H2 le s _ => ⟨xs, (e.mono le).sq s, by rw [r.length]; exact Nat.le_refl _⟩⟩
  have h2 := (e.mono le).sq s
  obtain ⟨x, h3, h4⟩ := r.get hd
  refine ⟨⟨xs, x, h2, h3⟩, fun y H3 ⟨eq, hy⟩ => ?_⟩
  subst eq
  have := hy xs h2
  rw [h3] at this; cases this
  exact ⟨F2, Ext.refl s, h4.mono le⟩
theorem RepK.get {F : Hp} : ∀ {kvs : List (Key × V)} {es : List (D × D)} {i : Nat} {p : D × D}, RepK g F kvs es → es[i]? = some p → ∃ k v, kvs[i]? = some (k, v) ∧ p.1 = keyD k ∧ Rep g F v p.2
  | _, _, _, _, .nil, e => by cases e
  | _, _, 0, _, .cons h _, e => by cases e; exact ⟨_, _, rfl, rfl, h⟩
  | _, _, i + 1, _, .cons _ t, e => by
    obtain ⟨k, x, h1, h2⟩ := RepK.get (i := i) t (by simpa using e)
    exact ⟨k, x, by simpa using h1, h2⟩
theorem RepK.length {F : Hp} : ∀ {kvs : List (Key × V)} {es : List (D × D)}, RepK g F kvs es → kvs.length = es.length
  | _, _, .nil => rfl
  | _, _, .cons _ t => by simp [RepK.length t]
theorem RepT.get {F : Hp} : ∀ {kvs : List (List Key × V)} {es : List (D × D)} {i : Nat} {p : D × D}, RepT g F kvs es → es[i]? = some p → ∃ k v, kvs[i]? = some (k, v) ∧ p.1 = .tup (k.map keyD) ∧ Rep g F v p.2
  | _, _, _, _, .nil, e => by cases e
  | _, _, 0, _, .cons h _, e => by cases e; exact ⟨_, _, rfl, rfl, h⟩
  | _, _, i + 1, _, .cons _ t, e => by
    obtain ⟨k, x, h1, h2⟩ := RepT.get (i := i) t (by simpa using e)
    exact ⟨k, x, by simpa using h1, h2⟩
theorem RepT.length {F : Hp} : ∀ {kvs : List (List Key × V)} {es : List (D × D)}, RepT g F kvs es → kvs.length = es.length
  | _, _, .nil => rfl
  | _, _, .cons _ t => by simp [RepT.length t]
theorem rep_key {F : Hp} : ∀ k : Key, Rep g F (kV k) (keyD k)
  | .inl _ => .int _
  | .inr _ => .str _
theorem rep_keys {F : Hp} : ∀ ks : List Key, RepAll g F (ks.map kV) (ks.map keyD)
  | [] => .nil
  | k :: ks => .cons (rep_key k) (rep_keys ks)
/-- a tuple that stands in the heap may be kept -/
theorem Ext.keepTup {F H : Hp} (s : Sub F H) {q : Addr} {xs : List V} (e : H q = some (.tup xs)) : ∃ F', Ext F H F' H ∧ F' q = some (.tup xs) := by
  cases h : F q with
  | some o =>
    refine ⟨F, Ext.refl s, ?_⟩
    rcases s q o h with z | ⟨z, ob, y⟩
    · rw [e] at z; cases z; exact h
    · rw [e] at y; cases y
  | none =>
    refine ⟨upd F q (.tup xs), ⟨upd_le h, fun _ _ h => h, fun a o h1 nt h2 => ?_, fun a o h1 => ?_⟩, upd_same⟩
    · rw [upd_ne (fun z => by rw [z, e] at h1; cases h1; exact nt _ rfl)]; exact h2
    · by_cases z : a = q
      · subst z; rw [upd_same] at h1; cases h1; exact .inl e
      · rw [upd_ne z] at h1; exact s a o h1
theorem it_keys {F H : Hp} {a : Addr} {od : Obj} {kvs : List (Key × V)} {es : List (D × D)} (e : F a = some (.dK kvs)) (hl : H a = some (.frz od (.dK kvs))) (r : RepK g F kvs es) : IterOk g F H (Itk a od kvs) (es.map (·.1)) := by
  refine ⟨fun F2 H2 le s pr i d hd => ?_, fun F2 H2 le s pr => ⟨pr _ _ _ e hl, by rw [r.length, List.length_map]; exact Nat.le_refl _⟩⟩
  rw [List.getElem?_map] at hd
  obtain ⟨p, hp, rfl⟩ := Option.map_eq_some_iff.mp hd
  obtain ⟨k, v, h1, h2, h3⟩ := r.get hp
  refine ⟨⟨pr _ _ _ e hl, (List.getElem?_eq_some_iff.mp h1).1⟩, fun y H3 ⟨eq, k', v', h4, h5⟩ => ?_⟩
  subst eq
  rw [h1] at h4; cases h4
  refine ⟨F2, Ext.refl s, ?_⟩
  rw [h5, h2]
  exact rep_key k
theorem it_keysT {F H : Hp} {a : Addr} {od : Obj} {kvs : List (List Key × V)} {es : List (D × D)} (e : F a = some (.dT kvs)) (hl : H a = some (.frz od (.dT kvs))) (r : RepT g F kvs es) : IterOk g F H (Itkt a od kvs) (es.map (·.1)) := by
  refine ⟨fun F2 H2 le s pr i d hd => ?_, fun F2 H2 le s pr => ⟨pr _ _ _ e hl, by rw [r.length, List.length_map]; exact Nat.le_refl _⟩⟩
  rw [List.getElem?_map] at hd
  obtain ⟨p, hp, rfl⟩ := Option.map_eq_some_iff.mp hd
  obtain ⟨k, v, h1, h2, h3⟩ := r.get hp
  refine ⟨⟨pr _ _ _ e hl, (List.getElem?_eq_some_iff.mp h1).1⟩, fun y H3 ⟨eq, k', v', q, h4, h5, h6⟩ => ?_⟩
  subst eq
  rw [h1] at h4; cases h4
  obtain ⟨F3, x3, h7⟩ := Ext.keepTup s h6
  refine ⟨F3, x3, ?_⟩
  rw [h5, h2]
  exact .tup h7 (rep_keys k)
theorem it_vals {F H : Hp} {a : Addr} {od : Obj} {kvs : List (Key × V)} {es : List (D × D)} (e : F a = some (.dK kvs)) (hl : H a = some (.frz od (.dK kvs))) (r : RepK g F kvs es) : IterOk g F H (Itd a od kvs) (es.map (·.2)) := by
  refine ⟨fun F2 H2 le s pr i d hd => ?_, fun F2 H2 le s pr => ⟨pr _ _ _ e hl, by rw [r.length, List.length_map]; exact Nat.le_refl _⟩⟩
  rw [List.getElem?_map] at hd
  obtain ⟨p, hp, rfl⟩ := Option.map_eq_some_iff.mp hd
  obtain ⟨k, v, h1, h2, h3⟩ := r.get hp
  refine ⟨⟨pr _ _ _ e hl, (List.getElem?_eq_some_iff.mp h1).1⟩, fun y H3 ⟨eq, k', h4⟩ => ?_⟩
  subst eq
  rw [h1] at h4; cases h4
  exact ⟨F2, Ext.refl s, h3.mono le⟩
theorem it_items {F H : Hp} {a : Addr} {od : Obj} {kvs : List (Key × V)} {es : List (D × D)} (e : F a = some (.dK kvs)) (hl : H a = some (.frz od (.dK kvs))) (r : RepK g F kvs es) : IterOk g F H (Iti a od kvs) (es.map fun p => .tup [p.1, p.2]) := by
  refine ⟨fun F2 H2 le s pr i d hd => ?_, fun F2 H2 le s pr => ⟨pr _ _ _ e hl, by rw [r.length, List.length_map]; exact Nat.le_refl _⟩⟩
  rw [List.getElem?_map] at hd
  obtain ⟨p, hp, rfl⟩ := Option.map_eq_some_iff.mp hd
  obtain ⟨k, v, h1, h2, h3⟩ := r.get hp
  refine ⟨⟨pr _ _ _ e hl, (List.getElem?_eq_some_iff.mp h1).1⟩, fun y H3 ⟨T, k', v', h4, h5, h6, h7⟩ => ?_⟩
  rw [h1] at h4; cases h4
  subst h7
  have x : Ext F2 H2 (upd F2 T (.tup [kV k, v])) (upd H2 T (.tup [kV k, v])) := Ext.new s h6
  refine ⟨_, x, ?_⟩
  rw [h5, h2]
  exact .tup upd_same (.cons (rep_key k) (.cons (h3.mono (le.trans x.le)) .nil))
theorem it_str {F H : Hp} {x : Str} : IterOk g F H (Its x) (x.cps.toList.map fun c => .str ⟨#[c]⟩) := by
  refine ⟨fun F2 H2 le s pr i d hd => ?_, fun F2 H2 le s pr => by simp [Its]⟩
  rw [List.getElem?_map] at hd
  obtain ⟨c, hc, rfl⟩ := Option.map_eq_some_iff.mp hd
  have hi : i < x.cps.size := by
    have := (List.getElem?_eq_some_iff.mp hc).1
    simpa using this
  refine ⟨hi, fun y H3 ⟨eq, c', h1, h2⟩ => ?_⟩
  subst eq
  refine ⟨F2, Ext.refl s, ?_⟩
  have : some c = some c' := by rw [← hc, ← h1]; simp
  cases this
  rw [h2]
  exact .str _
theorem it_range {F H : Hp} {lo : Int} {n : Nat} : IterOk g F H (Itr lo n) ((List.range n).map fun (i : Nat) => D.int (lo + i)) := by
  refine ⟨fun F2 H2 le s pr i d hd => ?_, fun F2 H2 le s pr => by simp [Itr]⟩
  rw [List.getElem?_map] at hd
  obtain ⟨j, hj, rfl⟩ := Option.map_eq_some_iff.mp hd
  have hi : i < n := by
    have := (List.getElem?_eq_some_iff.mp hj).1
    simpa using this
  have hji : j = i := by
    rw [List.getElem?_range hi] at hj
    exact (Option.some.inj hj).symm
  subst hji
  refine ⟨hi, fun y H3 ⟨eq, h1⟩ => ?_⟩
  subst eq
  refine ⟨F2, Ext.refl s, ?_⟩
  rw [h1]
  exact .int _
/-! the same by expressions -/
theorem pe_lk {e : Expr} {t : TE} (h : PE X e t) : PE X e (fun σ H Q => t σ H fun v H1 => Q v H1 ∨ ∃ d u, H1 d = some u ∧ Mut (some u) ∧ ∀ od, (∀ o' u', X.H_0 d ≠ some (.frz o' u')) → Q v (upd H1 d (.frz od u))) := by
  refine ⟨fun pins s σ H Q I hw => thn (h.run pins s σ H _ I hw) fun v s1 ⟨x, H1, I2, r, q⟩ => ?_⟩
  rcases q with q | ⟨d, u, hd, mu, q⟩
  · exact ⟨x, H1, I2, r, q⟩
  · obtain ⟨od, I3⟩ := I2.lock hd mu
    exact ⟨x, _, I3, r, q od (I2.nofrz hd mu)⟩
def mIt {R : Type} (f : D → Option (List D)) (ma : M R Vr) : M R (List D) := fun s => (ma s).bind fun p => (esc (soft p.1) p.2).bind fun q => (f q.1).map fun ds => (ds, q.2)
theorem mIt_inv {f : D → Option (List D)} {ma : M g.R.S Vr} {s s' : S g.R.S} {ds : List D} (e : mIt f ma s = some (ds, s')) : ∃ r s1 d, ma s = some (r, s1) ∧ esc (soft r) s1 = some (d, s') ∧ f d = some ds := by
  unfold mIt at e
  obtain ⟨p, e1, e⟩ := Option.bind_eq_some_iff.mp e
  obtain ⟨q, e2, e⟩ := Option.bind_eq_some_iff.mp e
  obtain ⟨z, e3, e⟩ := Option.map_eq_some_iff.mp e
  cases e
  exact ⟨p.1, p.2, q.1, e1, e2, e3⟩
/-- the value of what is walked, kept -/
theorem tM_esc {ma : M g.R.S Vr} {σ : St} {H : Hp} {Q : VK} {F : Hp} {s s1 s' : S g.R.S} {r : Vr} {d : D} (I : Sim g F s σ H) (e1 : ma s = some (r, s1)) (e2 : esc (soft r) s1 = some (d, s'))
    (k : ∀ F' v H', Sim g F' s' σ H' → Keep g F s σ H F' s' σ H' → Rep g F' v d → Q v H') : tM g ma σ H Q := by
  refine tM_soft I e1 fun F1 v H1 I1 K1 w => ?_
  obtain ⟨F2, I2, K2, r2⟩ := esc_ok I1 w e2
  exact k F2 v H1 I2 (K1.trans K2 I2) r2
def itemsOf : D → Option (List D)
  | .lst ds => some ds
  | .tup ds => some ds
  | .str x => some (x.cps.toList.map fun c => .str ⟨#[c]⟩)
  | .dct _ es => some (es.map (·.1))
  | .scr ns => some (ns.map .int)
  | _ => none
theorem i_any {tg e : Expr} {ma : M g.R.S Vr} {k : Nat} (o : XO g k X) (he : DE g X e ma) : DI g X tg e (mIt itemsOf ma) := by
  refine PI.imp (PI.or (PI.or (pi_list he) (pi_tup he)) (PI.or (pi_str he) (pi_keys (pe_lk he)))) fun σ H R ⟨F, s, ds, s', I, e, k⟩ => ?_
  obtain ⟨r, s1, d, e1, e2, e3⟩ := mIt_inv e
  cases d with
  | lst xs =>
    cases e3
    refine .inl (.inl (tM_esc I e1 e2 fun F1 v H1 I1 K1 r1 => ?_))
    obtain ⟨a, vs, rfl, h1, h2⟩ := r1.lstIn
    refine ⟨a, rfl, ⟨vs, SqL.of (I1.sub.at_ h1 nd_lst)⟩, ?_⟩
    rw [o.K]
    exact k F1 H1 H1 _ I1 K1 (.inl rfl) (it_list h1 h2)
  | scr ns =>
    cases e3
    refine .inl (.inl (tM_esc I e1 e2 fun F1 v H1 I1 K1 r1 => ?_))
    obtain ⟨a, rfl, h1⟩ := r1.scrIn
    refine ⟨a, rfl, ⟨_, by rw [o.K]; exact h1 F1 H1 (Le.refl _) I1.sub⟩, ?_⟩
    rw [o.K]
    exact k F1 H1 H1 _ I1 K1 (.inl rfl) (it_scr h1)
  | tup xs =>
    cases e3
    refine .inl (.inr (tM_esc I e1 e2 fun F1 v H1 I1 K1 r1 => ?_))
    obtain ⟨a, vs, rfl, h1, h2⟩ := r1.tupIn
    refine ⟨a, rfl, ⟨vs, by rw [o.K]; exact h1.sq I1.sub⟩, ?_⟩
    rw [o.K]
    exact k F1 H1 H1 _ I1 K1 (.inl rfl) (it_tup h1 h2)
  | str x =>
    cases e3
    refine .inr (.inl (tM_esc I e1 e2 fun F1 v H1 I1 K1 r1 => ?_))
    obtain rfl := Pk.str (H := H1) (.inl r1)
    exact ⟨x, rfl, k F1 H1 H1 _ I1 K1 (.inl rfl) it_str⟩
  | dct t es =>
    cases e3
    refine .inr (.inr (tM_esc I e1 e2 fun F1 v H1 I1 K1 r1 => ?_))
    cases t with
    | false =>
      obtain ⟨a, kvs, rfl, h1, h2⟩ := r1.dKIn
      rcases I1.sub a _ h1 with z | ⟨_, ob, z⟩
      · refine .inr ⟨a, _, z, trivial, fun od hn => ⟨a, od, rfl, .inl ⟨kvs, upd_same, ?_⟩⟩⟩
        exact k F1 H1 _ _ I1 K1 (.inr ⟨a, _, od, h1, .inl ⟨_, rfl⟩, z, rfl, hn⟩) (it_keys h1 upd_same h2)
      · exact .inl ⟨a, ob, rfl, .inl ⟨kvs, z, k F1 H1 H1 _ I1 K1 (.inl rfl) (it_keys h1 z h2)⟩⟩
    | true =>
      obtain ⟨a, kvs, rfl, h1, h2⟩ := r1.dTIn
      rcases I1.sub a _ h1 with z | ⟨_, ob, z⟩
      · refine .inr ⟨a, _, z, trivial, fun od hn => ⟨a, od, rfl, .inr ⟨kvs, upd_same, ?_⟩⟩⟩
        exact k F1 H1 _ _ I1 K1 (.inr ⟨a, _, od, h1, .inr ⟨_, rfl⟩, z, rfl, hn⟩) (it_keysT h1 upd_same h2)
      · exact .inl ⟨a, ob, rfl, .inr ⟨kvs, z, k F1 H1 H1 _ I1 K1 (.inl rfl) (it_keysT h1 z h2)⟩⟩
  | _ => cases e3
def valsOf : D → Option (List D)
  | .dct false es => some (es.map (·.2))
  | _ => none
def pairsOf : D → Option (List D)
  | .dct false es => some (es.map fun p => .tup [p.1, p.2])
  | _ => none
theorem i_vals {tg e : Expr} {ma : M g.R.S Vr} {apos cpos : Pos} (he : DE g X e ma) (hbase : attributeBase e "values" X.env (eval e X.env) = eval e X.env := by rfl) (hline : (apos.endLine == cpos.line) = true := by rfl) : DI g X tg (.Call (.Attribute e "values" apos) [] [] cpos) (mIt valsOf ma) := by
  refine PI.imp (pi_values (pe_lk he) hbase hline) fun σ H R ⟨F, s, ds, s', I, e, k⟩ => ?_
  obtain ⟨r, s1, d, e1, e2, e3⟩ := mIt_inv e
  cases d with
  | dct t es =>
    cases t with
    | true => cases e3
    | false =>
      cases e3
      refine tM_esc I e1 e2 fun F1 v H1 I1 K1 r1 => ?_
      obtain ⟨a, kvs, rfl, h1, h2⟩ := r1.dKIn
      rcases I1.sub a _ h1 with z | ⟨_, ob, z⟩
      · refine .inr ⟨a, _, z, trivial, fun od hn => ⟨a, od, kvs, rfl, upd_same, ?_⟩⟩
        exact k F1 H1 _ _ I1 K1 (.inr ⟨a, _, od, h1, .inl ⟨_, rfl⟩, z, rfl, hn⟩) (it_vals h1 upd_same h2)
      · exact .inl ⟨a, ob, kvs, rfl, z, k F1 H1 H1 _ I1 K1 (.inl rfl) (it_vals h1 z h2)⟩
  | _ => cases e3
theorem i_items {elts : List Expr} {kk : Nat} {tpos : Pos} {e : Expr} {ma : M g.R.S Vr} {apos cpos : Pos} (he : DE g X e ma) (hbase : attributeBase e "items" X.env (eval e X.env) = eval e X.env := by rfl) (hline : (apos.endLine == cpos.line) = true := by rfl) : DI g X (.Tuple elts kk tpos) (.Call (.Attribute e "items" apos) [] [] cpos) (mIt pairsOf ma) := by
  refine PI.imp (pi_items (pe_lk he) hbase hline) fun σ H R ⟨F, s, ds, s', I, e, k⟩ => ?_
  obtain ⟨r, s1, d, e1, e2, e3⟩ := mIt_inv e
  cases d with
  | dct t es =>
    cases t with
    | true => cases e3
    | false =>
      cases e3
      refine tM_esc I e1 e2 fun F1 v H1 I1 K1 r1 => ?_
      obtain ⟨a, kvs, rfl, h1, h2⟩ := r1.dKIn
      rcases I1.sub a _ h1 with z | ⟨_, ob, z⟩
      · refine .inr ⟨a, _, z, trivial, fun od hn => ⟨a, od, kvs, rfl, upd_same, ?_⟩⟩
        exact k F1 H1 _ _ I1 K1 (.inr ⟨a, _, od, h1, .inl ⟨_, rfl⟩, z, rfl, hn⟩) (it_items h1 upd_same h2)
      · exact .inl ⟨a, ob, kvs, rfl, z, k F1 H1 H1 _ I1 K1 (.inl rfl) (it_items h1 z h2)⟩
  | _ => cases e3
def rangeOf (n : Nat) (lo : Int) : List D := (List.range n).map fun (i : Nat) => D.int (lo + i)
def mRng1 {R : Type} (ma : M R Vr) : M R (List D) := fun s => (ma s).bind fun p => match p.1 with
  | .sh (.int j) => if j.natAbs ≤ 16777216 then some (rangeOf j.toNat 0, p.2) else none
  | _ => none
theorem i_range1 {tg a : Expr} {ma : M g.R.S Vr} {p pos : Pos} (hg : Gl X "range") (hm : X.mg "range" = none) (ha : DE g X a ma) (hs : starEach [a] X.env = [(false, eval a X.env)] := by rfl) (hs' : starEach [a] X.env = (false, eval a X.env) :: starEach [] X.env := by rfl) : DI g X tg (.Call (.Name "range" p) [a] [] pos) (mRng1 ma) := by
  refine PI.imp (pi_range1 hg hm (pa_cons ha pa_nil hs') hs) fun σ H R ⟨F, s, ds, s', I, e, k⟩ => ?_
  unfold mRng1 at e
  obtain ⟨⟨r, s1⟩, e1, e⟩ := Option.bind_eq_some_iff.mp e
  cases r with
  | sh d => cases d with
    | int j =>
      replace e : (if j.natAbs ≤ 16777216 then some (rangeOf j.toNat 0, s1) else none) = some (ds, s') := e
      by_cases hb : j.natAbs ≤ 16777216
      · rw [if_pos hb] at e
        cases e
        refine ⟨F, s, _, _, I, e1, fun F' v H' I' K' r => ?_⟩
        obtain rfl := Pk.int (H := H') (.inl r)
        exact ⟨j, rfl, by omega, by omega, k F' H' H' _ I' K' (.inl rfl) it_range⟩
      · rw [if_neg hb] at e; cases e
    | _ => cases e
  | _ => cases e
def mRng2 {R : Type} (ma mb : M R Vr) : M R (List D) := fun s => (ma s).bind fun p => (mb p.2).bind fun q => match p.1, q.1 with
  | .sh (.int i), .sh (.int j) => if i.natAbs ≤ 16777216 ∧ j.natAbs ≤ 16777216 then some (rangeOf (j - i).toNat i, q.2) else none
  | _, _ => none
theorem i_range2 {tg a b : Expr} {ma mb : M g.R.S Vr} {p pos : Pos} (hg : Gl X "range") (hm : X.mg "range" = none) (ha : DE g X a ma) (hb : DE g X b mb) (hs : starEach [a, b] X.env = [(false, eval a X.env), (false, eval b X.env)] := by rfl) (hs2 : starEach [b] X.env = [(false, eval b X.env)] := by rfl)
    (hs' : starEach [a, b] X.env = (false, eval a X.env) :: starEach [b] X.env := by rfl) (hs2' : starEach [b] X.env = (false, eval b X.env) :: starEach [] X.env := by rfl) : DI g X tg (.Call (.Name "range" p) [a, b] [] pos) (mRng2 ma mb) := by
  refine PI.imp (pi_range2 hg hm (pa_cons ha (pa_cons hb pa_nil hs2') hs') hs hs2) fun σ H R ⟨F, s, ds, s', I, e, k⟩ => ?_
  unfold mRng2 at e
  obtain ⟨⟨r, s1⟩, e1, e⟩ := Option.bind_eq_some_iff.mp e
  obtain ⟨⟨r2, s2⟩, e2, e⟩ := Option.bind_eq_some_iff.mp e
  cases r with
  | sh d => cases d with
    | int i => cases r2 with
      | sh d2 => cases d2 with
        | int j =>
          replace e : (if i.natAbs ≤ 16777216 ∧ j.natAbs ≤ 16777216 then some (rangeOf (j - i).toNat i, s2) else none) = some (ds, s') := e
          by_cases hb : i.natAbs ≤ 16777216 ∧ j.natAbs ≤ 16777216
          · rw [if_pos hb] at e
            cases e
            refine ⟨F, s, _, _, I, e1, fun F' v H' I' K' r => ⟨F', s1, _, _, I', e2, fun F2 v2 H2 I2 K2 r2 => ?_⟩⟩
            obtain rfl := Pk.int (H := H') (.inl r)
            obtain rfl := Pk.int (H := H2) (.inl r2)
            exact ⟨i, j, rfl, ⟨by omega, by omega, by omega, by omega⟩, k F2 H2 H2 _ I2 (K'.trans K2 I2) (.inl rfl) it_range⟩
          · rw [if_neg hb] at e; cases e
        | _ => cases e
      | _ => cases e
    | _ => cases e
  | _ => cases e
/-! enumerate, zip -/
def zipOf (ds es : List D) : List D := (ds.zip es).map fun p => .tup [p.1, p.2]
end
end RW
namespace RW
open PySem L2
/-! ### the slots of a comprehension's own names -/
def wipeE (e : List (Option Cell)) : List Nat → List (Option Cell)
  | [] => e
  | v :: vs => (wipeE e vs).set v none
def backE (e0 e : List (Option Cell)) : List Nat → List (Option Cell)
  | [] => e
  | v :: vs => (backE e0 e vs).set v ((e0[v]?).getD none)
def plainAt (e : List (Option Cell)) (vs : List Nat) : Bool := vs.all fun v => match e[v]? with
  | some (some c) => !c.own
  | _ => true
theorem wipeE_length (e : List (Option Cell)) : ∀ vs : List Nat, (wipeE e vs).length = e.length
  | [] => rfl
  | v :: vs => by unfold wipeE; rw [List.length_set, wipeE_length e vs]
theorem backE_length (e0 e : List (Option Cell)) : ∀ vs : List Nat, (backE e0 e vs).length = e.length
  | [] => rfl
  | v :: vs => by unfold backE; rw [List.length_set, backE_length e0 e vs]
theorem wipeE_some {e : List (Option Cell)} {i : Nat} {x : Cell} : ∀ {vs : List Nat}, (wipeE e vs)[i]? = some (some x) → e[i]? = some (some x) ∧ i ∉ vs
  | [], h => ⟨h, by simp⟩
  | v :: vs, h => by
    unfold wipeE at h
    by_cases hi : v = i
    · subst hi
      by_cases hv : v < (wipeE e vs).length
      · rw [List.getElem?_set_self hv] at h; cases h
      · rw [List.getElem?_eq_none (by simpa using hv)] at h; cases h
    · rw [List.getElem?_set_ne hi] at h
      obtain ⟨h1, h2⟩ := wipeE_some h
      exact ⟨h1, by simp only [List.mem_cons, not_or]; exact ⟨fun e => hi e.symm, h2⟩⟩
theorem wipe_out {σ : L2.St} {j : Nat} : ∀ {vs : List Nat}, j ∉ vs → (wipe σ vs)[j]? = σ[j]?
  | [], _ => rfl
  | v :: vs, h => by
    simp only [List.mem_cons, not_or] at h
    unfold wipe
    rw [List.getElem?_set_ne (Ne.symm h.1)]
    exact wipe_out h.2
theorem wipe_in {σ : L2.St} {j : Nat} : ∀ {vs : List Nat}, j ∈ vs → j < σ.length → (wipe σ vs)[j]? = some none
  | v :: vs, h, hl => by
    unfold wipe
    by_cases hj : v = j
    · subst hj
      exact List.getElem?_set_self (by rw [wipe_length]; exact hl)
    · rw [List.getElem?_set_ne hj]
      rcases List.mem_cons.mp h with z | z
      · exact (hj z.symm).elim
      · exact wipe_in z hl
theorem wipe_same {σ σ2 : L2.St} {vs : List Nat} (hl : σ2.length = σ.length) (h : ∀ j, j ∉ vs → σ2[j]? = σ[j]?) : wipe σ2 vs = wipe σ vs := by
  refine List.ext_getElem? fun j => ?_
  by_cases hj : j ∈ vs
  · by_cases hlt : j < σ.length
    · rw [wipe_in hj hlt, wipe_in hj (by rw [hl]; exact hlt)]
    · rw [List.getElem?_eq_none (by rw [wipe_length, hl]; omega), List.getElem?_eq_none (by rw [wipe_length]; omega)]
  · rw [wipe_out hj, wipe_out hj, h j hj]
theorem backE_out {e0 e : List (Option Cell)} {j : Nat} : ∀ {vs : List Nat}, j ∉ vs → (backE e0 e vs)[j]? = e[j]?
  | [], _ => rfl
  | v :: vs, h => by
    simp only [List.mem_cons, not_or] at h
    unfold backE
    rw [List.getElem?_set_ne (Ne.symm h.1)]
    exact backE_out h.2
theorem backE_in {e0 e : List (Option Cell)} {j : Nat} {c : Cell} : ∀ {vs : List Nat}, j ∈ vs → (backE e0 e vs)[j]? = some (some c) → e0[j]? = some (some c)
  | v :: vs, h, hc => by
    unfold backE at hc
    by_cases hj : v = j
    · subst hj
      have hlt : v < (backE e0 e vs).length := by
        have := (List.getElem?_eq_some_iff.mp hc).1
        simpa using this
      rw [List.getElem?_set_self hlt] at hc
      cases q : e0[v]? with
      | none => rw [q] at hc; cases hc
      | some x => rw [q] at hc; cases hc; rfl
    · rw [List.getElem?_set_ne hj] at hc
      rcases List.mem_cons.mp h with z | z
      · exact (hj z.symm).elim
      · exact backE_in z hc
theorem plain_of {e : List (Option Cell)} {vs : List Nat} (h : plainAt e vs = true) {j : Nat} {c : Cell} (hj : j ∈ vs) (hc : e[j]? = some (some c)) : c.own = false := by
  unfold plainAt at h
  have := List.all_eq_true.mp h j hj
  rw [hc] at this
  simpa using this
mutual
theorem bindT_len : ∀ {T : Tg} {d : D} {e e' : List (Option Cell)}, bindT T d e = some e' → e'.length = e.length
  | .nm i, d, e, e', h => by unfold bindT at h; cases h; simp
  | .tp ts, .tup ds, e, e', h => by unfold bindT at h; exact bindTs_len' h
  | .tp ts, .lst ds, e, e', h => by unfold bindT at h; exact bindTs_len' h
  | .tp ts, .non, _, _, h => by unfold bindT at h; cases h
  | .tp ts, .bl _, _, _, h => by unfold bindT at h; cases h
  | .tp ts, .int _, _, _, h => by unfold bindT at h; cases h
  | .tp ts, .str _, _, _, h => by unfold bindT at h; cases h
  | .tp ts, .dct _ _, _, _, h => by unfold bindT at h; cases h
  | .tp ts, .obj _ _, _, _, h => by unfold bindT at h; cases h
  | .tp ts, .res, _, _, h => by unfold bindT at h; cases h
  | .tp ts, .scr _, _, _, h => by unfold bindT at h; cases h
theorem bindTs_len' : ∀ {Ts : List Tg} {ds : List D} {e e' : List (Option Cell)}, bindTs Ts ds e = some e' → e'.length = e.length
  | [], [], e, e', h => by unfold bindTs at h; cases h; rfl
  | t :: ts, d :: ds, e, e', h => by
    unfold bindTs at h
    obtain ⟨e1, h1, h⟩ := Option.bind_eq_some_iff.mp h
    rw [bindTs_len' h, bindT_len h1]
  | [], _ :: _, _, _, h => by unfold bindTs at h; cases h
  | _ :: _, [], _, _, h => by unfold bindTs at h; cases h
end
section
variable {g : G} {X : Cx}
/-! ### [e for x in xs if t] -/
def lcL {R : Type} (vs : List Nat) (T : Tg) (mt me : M R Vr) : List D → List D → M R (List D)
  | [], acc => fun s => some (acc, s)
  | d :: ds, acc => fun s => if plainAt s.e vs then (bindT T d (wipeE s.e vs)).bind fun e' => (mt { s with e := e' }).bind fun p => match p.1 with
    | .sh (.bl true) => (me p.2).bind fun q => (esc (soft q.1) q.2).bind fun z => if acc.length < sizeLine then lcL vs T mt me ds (acc ++ [z.1]) { z.2 with e := backE s.e z.2.e vs } else none
    | .sh (.bl false) => lcL vs T mt me ds acc { p.2 with e := backE s.e p.2.e vs }
    | _ => none
    else none
def mLc {R : Type} (vs : List Nat) (mi : M R (List D)) (T : Tg) (mt me : M R Vr) : M R Vr := fun s => (mi s).bind fun p => (lcL vs T mt me p.1 [] p.2).map fun q => (.tmp (.lst q.1), q.2)
theorem Locked.free {F1 H1 HL : Hp} (l : Locked X F1 H1 HL) {a : Addr} (h : HL a = none) : H1 a = none := by
  rcases l with rfl | ⟨d, u, od, h1, h2, h3, rfl, _⟩
  · exact h
  · by_cases z : a = d
    · subst z; rw [upd_same] at h; cases h
    · rw [upd_ne z] at h; exact h
/-- the block is entered -/
theorem Sim.wipe {F H : Hp} {s : S g.R.S} {σ : St} (I : Sim g F s σ H) (vs : List Nat) : Sim g F { s with e := wipeE s.e vs } (L2.wipe σ vs) H := by
  refine ⟨I.sub, I.at_, I.foot, by show (wipeE s.e vs).length = _; rw [wipeE_length, wipe_length]; exact I.len, fun i c e => ?_, fun i j ci cj a hne ei ej oi oj hi => ?_⟩
  · obtain ⟨h1, h2⟩ := wipeE_some e
    rw [wipe_out h2]
    exact I.cell i c h1
  · obtain ⟨h1, h2⟩ := wipeE_some ei
    obtain ⟨h3, h4⟩ := wipeE_some ej
    rw [wipe_out h2] at hi
    rw [wipe_out h4]
    exact I.apart i j ci cj a hne h1 h3 oi oj hi
theorem Own.wipe {e : List (Option Cell)} {σ : St} {vs : List Nat} {a : Addr} (h : Own (L2.wipe σ vs) (wipeE e vs) a) : Own σ e a := by
  obtain ⟨i, c, h1, h2, h3⟩ := h
  obtain ⟨h4, h5⟩ := wipeE_some h1
  rw [wipe_out h5] at h3
  exact ⟨i, c, h4, h2, h3⟩
/-- .. and left: s0 the state ahead of it -/
theorem Sim.back {F0 F H0 H : Hp} {s0 s : S g.R.S} {σ σ2 : St} {vs : List Nat} (I0 : Sim g F0 s0 σ H0) (pl : plainAt s0.e vs = true) (le : Le F0 F) (I : Sim g F s σ2 H) (hl : σ2.length = σ.length) (fr : ∀ j, j ∉ vs → σ2[j]? = σ[j]?) : Sim g F { s with e := backE s0.e s.e vs } σ H := by
  have out : ∀ {j : Nat} {c : Cell}, (backE s0.e s.e vs)[j]? = some (some c) → c.own = true → j ∉ vs ∧ s.e[j]? = some (some c) := fun {j c} e ho => by
    by_cases hj : j ∈ vs
    · have := plain_of pl hj (backE_in hj e)
      rw [ho] at this; cases this
    · rw [backE_out hj] at e; exact ⟨hj, e⟩
  refine ⟨I.sub, I.at_, I.foot, by show (backE s0.e s.e vs).length = _; rw [backE_length, ← hl]; exact I.len, fun i c e => ?_, fun i j ci cj a hne ei ej oi oj hi => ?_⟩
  · replace e : (backE s0.e s.e vs)[i]? = some (some c) := e
    by_cases hi : i ∈ vs
    · have e0 := backE_in hi e
      have ho := plain_of pl hi e0
      obtain ⟨v, h1, h2⟩ := I0.cell i c e0
      refine ⟨v, h1, ?_⟩
      rcases h2 with ⟨_, h2⟩ | ⟨h2, _⟩
      · exact .inl ⟨ho, h2.mono le⟩
      · rw [ho] at h2; cases h2
    · rw [backE_out hi] at e
      rw [← fr i hi]
      exact I.cell i c e
  · obtain ⟨h1, h2⟩ := out ei oi
    obtain ⟨h3, h4⟩ := out ej oj
    rw [← fr i h1] at hi
    rw [← fr j h3]
    exact I.apart i j ci cj a hne h2 h4 oi oj hi
theorem Own.back {e0 e : List (Option Cell)} {σ σ2 : St} {vs : List Nat} {a : Addr} (pl : plainAt e0 vs = true) (fr : ∀ j, j ∉ vs → σ2[j]? = σ[j]?) (h : Own σ (backE e0 e vs) a) : Own σ2 e a := by
  obtain ⟨i, c, h1, h2, h3⟩ := h
  by_cases hi : i ∈ vs
  · have := plain_of pl hi (backE_in hi h1)
    rw [h2] at this; cases this
  · rw [backE_out hi] at h1
    rw [← fr i hi] at h3
    exact ⟨i, c, h1, h2, h3⟩
/-- a list that is being made: no slot's, not kept yet -/
structure Mk0 (g : G) (F : Hp) (e : List (Option Cell)) (σ : St) (H : Hp) (p : Addr) (av : List V) : Prop where
  at_ : H p = some (.lst av)
  nf : F p = none
  no : ¬ Own σ e p
theorem Mk0.keep {F F' H H' : Hp} {s s' : S g.R.S} {σ σ' : St} {p : Addr} {av : List V} (m : Mk0 g F s.e σ H p av) (ft : ¬ g.R.foot p) (K : Keep g F s σ H F' s' σ' H') : Mk0 g F' s'.e σ' H' p av :=
  ⟨K.heap _ _ m.at_ m.no ft, K.nof _ _ m.at_ (fun _ z => nomatch z) m.nf m.no, fun z => by
    rcases K.own p z with z | z
    · exact m.no z
    · rw [m.at_] at z; cases z⟩
/-- its content changes -/
theorem Sim.grow {F H : Hp} {s : S g.R.S} {σ : St} {p : Addr} {o : HO} (I : Sim g F s σ H) (nf : F p = none) (no : ¬ Own σ s.e p) (ft : ¬ g.R.foot p) : Sim g F s σ (upd H p o) := by
  refine ⟨fun a u e => ?_, g.R.stay I.at_ fun a ha => upd_ne (fun (z : a = p) => ft (by rw [← z]; exact ha)), I.foot, I.len, fun i c e => ?_, I.apart⟩
  · rw [upd_ne (fun z => by rw [z, nf] at e; cases e)]; exact I.sub a u e
  · obtain ⟨v, h1, h2⟩ := I.cell i c e
    refine ⟨v, h1, ?_⟩
    rcases h2 with h2 | ⟨h2, q, x, r1, r2, r3, r4, r5⟩
    · exact .inl h2
    · refine .inr ⟨h2, q, x, r1, r2, r3, ?_, r5⟩
      rw [upd_ne (fun z => no ⟨i, c, e, h2, by rw [h1, r1, z]⟩)]; exact r4
theorem Keep.grow' {F0 F H0 H : Hp} {s0 s : S g.R.S} {σ0 σ : St} {p : Addr} {o : HO} (K : Keep g F0 s0 σ0 H0 F s σ H) (h0 : H0 p = none) : Keep g F0 s0 σ0 H0 F s σ (upd H p o) :=
  ⟨fun a u e n nf => by rw [upd_ne (ne_of_none e h0)]; exact K.heap a u e n nf, K.grow, K.nof, K.own, fun a u e => by rw [upd_ne (ne_of_none e h0)]; exact K.there a u e⟩
theorem RepAll.append {F : Hp} : ∀ {xs : List V} {ds : List D} {y : V} {d : D}, RepAll g F xs ds → Rep g F y d → RepAll g F (xs ++ [y]) (ds ++ [d])
  | _, _, _, _, .nil, h => .cons h .nil
  | _, _, _, _, .cons a b, h => .cons a (RepAll.append b h)
theorem tLc_of {vs : List Nat} {mi : M g.R.S (List D)} {T : Tg} {mt me : M g.R.S Vr} {σ : St} {H : Hp} {Q : VK} (hT : ∀ j ∈ tSlots T, j ∈ vs) (h : tM g (mLc vs mi T mt me) σ H Q) : tLc (tI g X mi) (tG g T) (tMB g mt) (tM g me) vs σ H (fun v H' => Ul X (Q v) H') := by
  obtain ⟨F, s, res, sf0, I, e, k⟩ := h
  unfold mLc at e
  obtain ⟨⟨ds, s1⟩, e1, e⟩ := Option.bind_eq_some_iff.mp e
  obtain ⟨⟨qf, sf⟩, e2, e⟩ := Option.map_eq_some_iff.mp e
  cases e
  refine ⟨F, s, ds, s1, I, e1, fun F1 H1 HL J I1 K1 l it p hp => ?_⟩
  have IL := I1.lock l
  have ft : ¬ g.R.foot p := IL.nofoot hp
  have x0 : Ext F1 HL F1 (upd HL p (.lst [])) := Ext.tmp IL.sub hp
  have no0 : ¬ Own σ s1.e p := fun z => by
    obtain ⟨o, e, _⟩ := (IL.own_at z).2.2
    rw [hp] at e; cases e
  refine ⟨fun i m H' => m = ds.length - i ∧ i ≤ ds.length ∧ ∃ F' s' av ad, Sim g F' s' σ H' ∧ Keep g F1 s1 σ HL F' s' σ H' ∧ Mk0 g F' s'.e σ H' p av ∧ RepAll g F' av ad ∧ lcL vs T mt me (ds.drop i) ad s' = some (qf, sf),
    ⟨_, rfl, Nat.zero_le _, F1, s1, [], [], IL.ext x0, Keep.ext x0, ⟨upd_same, IL.sub.free hp, no0⟩, .nil, by simpa using e2⟩, ?_⟩
  rintro i m H2 ⟨rfl, hi, F2, s2, av, ad, I2, K2, m2, r2, e2⟩
  have pr := Keep.pres IL K2
  by_cases hlt : i < ds.length
  · have hd : ds[i]? = some ds[i] := List.getElem?_eq_getElem hlt
    obtain ⟨go, yl⟩ := it.go F2 H2 K2.grow I2.sub pr i _ hd
    rw [List.drop_eq_getElem_cons hlt] at e2
    unfold lcL at e2
    cases pl : plainAt s2.e vs with
    | false => rw [pl] at e2; cases e2
    | true =>
    rw [pl, if_pos rfl] at e2
    obtain ⟨e', e3, e2⟩ := Option.bind_eq_some_iff.mp e2
    obtain ⟨⟨rt, s3⟩, e4, e2⟩ := Option.bind_eq_some_iff.mp e2
    refine .inr ⟨go, fun H' => ∃ F' s' av' ad', Sim g F' s' σ H' ∧ Keep g F1 s1 σ HL F' s' σ H' ∧ Mk0 g F' s'.e σ H' p av' ∧ RepAll g F' av' ad' ∧ lcL vs T mt me (ds.drop (i + 1)) ad' s' = some (qf, sf), fun H' ⟨F', s', av', ad', q⟩ => ⟨ds.length - (i + 1), by omega, rfl, hlt, F', s', av', ad', q⟩, fun x H3 hy => ?_⟩
    obtain ⟨F3, x3, r3⟩ := yl x H3 hy
    have I3 := I2.ext x3
    have K3 := K2.trans (Keep.ext x3) I3
    have m3 : Mk0 g F3 s2.e σ H3 p av := m2.keep ft (Keep.ext x3)
    have I3w := I3.wipe vs
    refine ⟨F3, _, _, e', I3w, r3, e3, fun σ4 I4 ow fr => ?_⟩
    have hlen : σ4.length = σ.length := by
      have h1 : e'.length = σ4.length := I4.len
      rw [← h1, bindT_len e3, wipeE_length, I3.len]
    have fr' : ∀ j, j ∉ vs → σ4[j]? = σ[j]? := fun j hj => by rw [fr j fun z => hj (hT j z), wipe_out hj]
    have m4 : Mk0 g F3 e' σ4 H3 p av := ⟨m3.at_, m3.nf, fun z => m3.no (ow p z).wipe⟩
    refine ⟨wipe_same hlen fr', ?_⟩
    -- what is kept from the block's entry to a state in it
    have kb : ∀ {F5 H5 : Hp} {s5 : S g.R.S}, Keep g F3 { s2 with e := e' } σ4 H3 F5 s5 σ4 H5 → Sim g F5 s5 σ4 H5 → Sim g F5 { s5 with e := backE s2.e s5.e vs } σ H5 ∧ Keep g F3 s2 σ H3 F5 { s5 with e := backE s2.e s5.e vs } σ H5 := fun {F5 H5 s5} K5 I5 => by
      have I6 := Sim.back (vs := vs) I3 pl K5.grow I5 hlen fr'
      refine ⟨I6, ⟨fun a u e n nf => K5.heap a u e (fun z => n (ow a z).wipe) nf, K5.grow, fun a u e nt q n => K5.nof a u e nt q fun z => n (ow a z).wipe, fun a z => ?_, K5.there⟩⟩
      rcases K5.own a (z.back pl fr') with z | z
      · exact .inl (ow a z).wipe
      · exact .inr z
    cases rt with
    | tmp _ => cases e2
    | sl _ => cases e2
    | sh dt => cases dt with
      | bl b =>
        refine ⟨F3, _, b, s3, I4, e4, fun F5 H5 I5 K5 => ?_⟩
        obtain ⟨I6, K6⟩ := kb K5 I5
        cases b with
        | false =>
          refine iteF ⟨F5, _, av, ad, I6, K3.trans K6 I6, ?_, r2.mono (x3.le.trans K5.grow), e2⟩
          exact Mk0.keep (s' := { s3 with e := backE s2.e s3.e vs }) m3 ft K6
        | true =>
          refine iteT ?_
          obtain ⟨⟨r5, s5⟩, e5, e2⟩ := Option.bind_eq_some_iff.mp e2
          obtain ⟨⟨d6, s6⟩, e6, e2⟩ := Option.bind_eq_some_iff.mp e2
          by_cases hsz : ad.length < sizeLine
          · replace e2 : (if ad.length < sizeLine then lcL vs T mt me (ds.drop (i + 1)) (ad ++ [d6]) { s6 with e := backE s2.e s6.e vs } else none) = some (qf, sf) := e2
            rw [if_pos hsz] at e2
            refine tM_esc I5 e5 e6 fun F7 y H7 I7 K7 r7 => ?_
            have K57 := K5.trans K7 I7
            obtain ⟨I8, K8⟩ := kb K57 I7
            have K38 := K3.trans K8 I8
            have m8 : Mk0 g F7 (backE s2.e s6.e vs) σ H7 p av := Mk0.keep (s' := { s6 with e := backE s2.e s6.e vs }) m3 ft K8
            have r8 : RepAll g F7 av ad := r2.mono (x3.le.trans K57.grow)
            refine ⟨av, m8.at_, by rw [r8.length]; exact hsz, F7, _, av ++ [y], ad ++ [d6], I8.grow m8.nf m8.no ft, K38.grow' hp, ⟨upd_same, m8.nf, m8.no⟩, ?_, e2⟩
            exact r8.append r7
          · replace e2 : (if ad.length < sizeLine then lcL vs T mt me (ds.drop (i + 1)) (ad ++ [d6]) { s6 with e := backE s2.e s6.e vs } else none) = some (qf, sf) := e2
            rw [if_neg hsz] at e2; cases e2
      | _ => cases e2
  · have e' : i = ds.length := by omega
    subst e'
    rw [List.drop_length] at e2
    cases e2
    refine .inl ⟨it.stop F2 H2 K2.grow I2.sub pr, Sim.unlock I1 K1 l I2 K2 fun H' hk I' K' => k F2 _ H' I' K' ⟨p, .lst av, rfl, ?_, m2.nf, ft, m2.no, hk _ _ m2.nf m2.at_, .lst r2⟩⟩
    cases q : H p with
    | none => rfl
    | some u =>
      obtain ⟨o', z⟩ := K1.there p u q
      rw [l.free hp] at z; cases z
end
end RW
namespace RW
open PySem L2
/-! ### keys -/
mutual
def keq : D → D → Bool
  | .int i, .int j => decide (i = j)
  | .str x, .str y => decide (x = y)
  | .tup a, .tup b => keqs a b
  | _, _ => false
def keqs : List D → List D → Bool
  | [], [] => true
  | a :: as, b :: bs => keq a b && keqs as bs
  | _, _ => false
end
def getE (es : List (D × D)) (k : D) : Option D := (es.find? fun p => keq p.1 k).map (·.2)
def putE (es : List (D × D)) (k v : D) : List (D × D) := if (es.any fun p => keq p.1 k) = true then es.map (fun p => if keq p.1 k = true then (p.1, v) else p) else es ++ [(k, v)]
def kOf : D → Option Key
  | .int i => some (.inl i)
  | .str x => some (.inr x)
  | _ => none
theorem kOf_some {d : D} {k : Key} (h : kOf d = some k) : d = keyD k := by
  cases d <;> cases h <;> rfl
theorem keq_key (a b : Key) : keq (keyD a) (keyD b) = decide (a = b) := by
  cases a <;> cases b <;> simp [keyD, keq]
theorem keqs_keys : ∀ a b : List Key, keqs (a.map keyD) (b.map keyD) = decide (a = b)
  | [], [] => by simp [keqs]
  | [], _ :: _ => by simp [keqs]
  | _ :: _, [] => by simp [keqs]
  | a :: as, b :: bs => by
    simp only [List.map_cons, keqs, keq_key, keqs_keys as bs, List.cons.injEq, Bool.decide_and]
theorem keq_tup (a b : List Key) : keq (.tup (a.map keyD)) (.tup (b.map keyD)) = decide (a = b) := by
  unfold keq
  exact keqs_keys a b
section
variable {g : G} {X : Cx}
theorem RepK.val {F : Hp} (k : Key) : ∀ {kvs : List (Key × V)} {es : List (D × D)}, RepK g F kvs es → (∀ d, getE es (keyD k) = some d → ∃ v, valV kvs k = some v ∧ Rep g F v d) ∧ (getE es (keyD k) = none → valV kvs k = none)
  | _, _, .nil => ⟨fun _ h => (nomatch h), fun _ => rfl⟩
  | _, _, .cons (k := k') (v := v) (d := d) h t => by
    obtain ⟨h1, h2⟩ := RepK.val k t
    by_cases e : k' = k
    · subst e
      have e1 : ∀ {r : List (D × D)}, getE ((keyD k', d) :: r) (keyD k') = some d := fun {r} => by simp [getE, List.find?_cons, keq_key]
      rw [e1, valV_pos (p := (k', v)) rfl]
      exact ⟨fun d' h' => by cases h'; exact ⟨v, rfl, h⟩, fun h' => by cases h'⟩
    · have e1 : ∀ {r : List (D × D)}, getE ((keyD k', d) :: r) (keyD k) = getE r (keyD k) := fun {r} => by simp [getE, List.find?_cons, keq_key, e]
      rw [e1, valV_neg (p := (k', v)) e]
      exact ⟨h1, h2⟩
theorem RepT.val {F : Hp} (k : List Key) : ∀ {kvs : List (List Key × V)} {es : List (D × D)}, RepT g F kvs es → (∀ d, getE es (.tup (k.map keyD)) = some d → ∃ v, valV kvs k = some v ∧ Rep g F v d) ∧ (getE es (.tup (k.map keyD)) = none → valV kvs k = none)
  | _, _, .nil => ⟨fun _ h => (nomatch h), fun _ => rfl⟩
  | _, _, .cons (k := k') (v := v) (d := d) h t => by
    obtain ⟨h1, h2⟩ := RepT.val k t
    by_cases e : k' = k
    · subst e
      have e1 : ∀ {r : List (D × D)}, getE ((.tup (k'.map keyD), d) :: r) (.tup (k'.map keyD)) = some d := fun {r} => by simp [getE, List.find?_cons, keq_tup]
      rw [e1, valV_pos (p := (k', v)) rfl]
      exact ⟨fun d' h' => by cases h'; exact ⟨v, rfl, h⟩, fun h' => by cases h'⟩
    · have e1 : ∀ {r : List (D × D)}, getE ((.tup (k'.map keyD), d) :: r) (.tup (k.map keyD)) = getE r (.tup (k.map keyD)) := fun {r} => by simp [getE, List.find?_cons, keq_tup, e]
      rw [e1, valV_neg (p := (k', v)) e]
      exact ⟨h1, h2⟩
theorem RepK.any {F : Hp} (k : Key) : ∀ {kvs : List (Key × V)} {es : List (D × D)}, RepK g F kvs es → (es.any fun p => keq p.1 (keyD k)) = kvs.any fun kv => decide (kv.1 = k)
  | _, _, .nil => rfl
  | _, _, .cons h t => by simp only [List.any_cons, keq_key, RepK.any k t]
theorem RepK.map {F : Hp} (k : Key) {v : V} {d : D} (r : Rep g F v d) : ∀ {kvs : List (Key × V)} {es : List (D × D)}, RepK g F kvs es → RepK g F (kvs.map fun kv => if kv.1 = k then (kv.1, v) else kv) (es.map fun p => if keq p.1 (keyD k) = true then (p.1, d) else p)
  | _, _, .nil => .nil
  | _, _, .cons (k := k') h t => by
    simp only [List.map_cons, keq_key, decide_eq_true_eq]
    by_cases e : k' = k
    · rw [if_pos e, if_pos e]; exact .cons r (RepK.map k r t)
    · rw [if_neg e, if_neg e]; exact .cons h (RepK.map k r t)
theorem RepK.append {F : Hp} (k : Key) {v : V} {d : D} (r : Rep g F v d) : ∀ {kvs : List (Key × V)} {es : List (D × D)}, RepK g F kvs es → RepK g F (kvs ++ [(k, v)]) (es ++ [(keyD k, d)])
  | _, _, .nil => .cons r .nil
  | _, _, .cons h t => .cons h (RepK.append k r t)
theorem RepK.put {F : Hp} (k : Key) {v : V} {d : D} (r : Rep g F v d) {kvs : List (Key × V)} {es : List (D × D)} (h : RepK g F kvs es) : RepK g F (putK kvs k v) (putE es (keyD k) d) := by
  unfold putK putE
  rw [h.any k]
  split
  · exact h.map k r
  · exact h.append k r
theorem RepT.any {F : Hp} (k : List Key) : ∀ {kvs : List (List Key × V)} {es : List (D × D)}, RepT g F kvs es → (es.any fun p => keq p.1 (.tup (k.map keyD))) = kvs.any fun kv => decide (kv.1 = k)
  | _, _, .nil => rfl
  | _, _, .cons h t => by simp only [List.any_cons, keq_tup, RepT.any k t]
theorem RepT.map {F : Hp} (k : List Key) {v : V} {d : D} (r : Rep g F v d) : ∀ {kvs : List (List Key × V)} {es : List (D × D)}, RepT g F kvs es → RepT g F (kvs.map fun kv => if kv.1 = k then (kv.1, v) else kv) (es.map fun p => if keq p.1 (.tup (k.map keyD)) = true then (p.1, d) else p)
  | _, _, .nil => .nil
  | _, _, .cons (k := k') h t => by
    simp only [List.map_cons, keq_tup, decide_eq_true_eq]
    by_cases e : k' = k
    · rw [if_pos e, if_pos e]; exact .cons r (RepT.map k r t)
    · rw [if_neg e, if_neg e]; exact .cons h (RepT.map k r t)
theorem RepT.append {F : Hp} (k : List Key) {v : V} {d : D} (r : Rep g F v d) : ∀ {kvs : List (List Key × V)} {es : List (D × D)}, RepT g F kvs es → RepT g F (kvs ++ [(k, v)]) (es ++ [(.tup (k.map keyD), d)])
  | _, _, .nil => .cons r .nil
  | _, _, .cons h t => .cons h (RepT.append k r t)
theorem RepT.put {F : Hp} (k : List Key) {v : V} {d : D} (r : Rep g F v d) {kvs : List (List Key × V)} {es : List (D × D)} (h : RepT g F kvs es) : RepT g F (putK kvs k v) (putE es (.tup (k.map keyD)) d) := by
  unfold putK putE
  rw [h.any k]
  split
  · exact h.map k r
  · exact h.append k r
/-! ### comprehensions by expressions -/
def DTs (g : G) (X : Cx) (ifs : List Expr) (m : M g.R.S Vr) : Prop := PTs X ifs (tMB g m)
theorem PTs.imp {ifs : List Expr} {t t' : TT} (h : PTs X ifs t) (w : ∀ σ H Q, t' σ H Q → t σ H Q) : PTs X ifs t' := ⟨fun pins s σ H Q I q => h.run pins s σ H Q I (w _ _ _ q)⟩
theorem c_nil : DTs g X [] (mC (.bl true)) := PTs.imp pts_nil fun σ H Q ⟨F, s, b, s', I, e, k⟩ => by
  cases e
  exact k F H I Keep.refl
theorem c_one {c : Expr} {m : M g.R.S Vr} (h : DT g X c m) : DTs g X [c] m := pts_one h
theorem d_lc {elt tg iter : Expr} {ifs : List Expr} {scope : Scope} {pos : Pos} {mi : M g.R.S (List D)} {T : Tg} {mt me : M g.R.S Vr} {k : Nat} (own : List (Str × Nat)) (o : XO g k X) (hi : DI g X tg iter mi) (ok : BlkOk X.N X.env.scope scope own)
    (hg : ∀ (s : Shared) (H : Hp) (C : Addr) (cl : List (Str × Addr)) (fp : List Addr), PG (X.blk s H scope (compEnvC scope cl C X.env) fp) tg (tG g T)) (ht : ∀ (s : Shared) (H : Hp) (C : Addr) (cl : List (Str × Addr)) (fp : List Addr), DTs g (X.blk s H scope (compEnvC scope cl C X.env) fp) ifs mt)
    (he : ∀ (s : Shared) (H : Hp) (C : Addr) (cl : List (Str × Addr)) (fp : List Addr), DE g (X.blk s H scope (compEnvC scope cl C X.env) fp) elt me) (hT : ∀ j ∈ tSlots T, j ∈ own.map (·.2) := by decide) (hs : ∀ x, foldedSetIterable iter X.env x = pure x := by intro _; rfl) :
    DE g X (.ListComp elt [⟨tg, iter, ifs, 0⟩] scope pos) (mLc (own.map (·.2)) mi T mt me) :=
  PE.imp (pe_un' (pe_lc (own := own) o.calm o.nd hi ok hg ht he hs)) fun σ H Q h => tLc_of hT h
theorem s_setLc {i : Nat} {y : Str} {py : Pos} {elt tg iter : Expr} {ifs : List Expr} {scope : Scope} {pos spos : Pos} {mi : M g.R.S (List D)} {T : Tg} {mt me : M g.R.S Vr} {k : Nat} (own : List (Str × Nat)) (o : XO g k X) (hi : DI g X tg iter mi) (ok : BlkOk X.N X.env.scope scope own)
    (hg : ∀ (s : Shared) (H : Hp) (C : Addr) (cl : List (Str × Addr)) (fp : List Addr), PG (X.blk s H scope (compEnvC scope cl C X.env) fp) tg (tG g T)) (ht : ∀ (s : Shared) (H : Hp) (C : Addr) (cl : List (Str × Addr)) (fp : List Addr), DTs g (X.blk s H scope (compEnvC scope cl C X.env) fp) ifs mt)
    (he : ∀ (s : Shared) (H : Hp) (C : Addr) (cl : List (Str × Addr)) (fp : List Addr), DE g (X.blk s H scope (compEnvC scope cl C X.env) fp) elt me)
    (hsw : swapsWith (.ListComp elt [⟨tg, iter, ifs, 0⟩] scope pos) (some (.Name y py)) spos.line X.env = pure true)
    (hT : ∀ j ∈ tSlots T, j ∈ own.map (·.2) := by decide) (hs : ∀ x, foldedSetIterable iter X.env x = pure x := by intro _; rfl) (hy : X.N[i]? = some y := by rfl) (hyl : X.env.scope.names.lookup y = some .local := by rfl) :
    DS g X (.Assign [.Name y py] (.ListComp elt [⟨tg, iter, ifs, 0⟩] scope pos) spos) (mSet i (mLc (own.map (·.2)) mi T mt me)) :=
  PS.imp (ps_un (ps_setLc (own := own) o.calm o.nd hy hyl hsw hi ok hg ht he hs)) fun E σ H h => tLc_of hT (tSet_of h)
/-! ### {k: v for x in xs if t} -/
def dcL {R : Type} (vs : List Nat) (T : Tg) (mt mk mv : M R Vr) : List D → List (D × D) → M R (List (D × D))
  | [], acc => fun s => some (acc, s)
  | d :: ds, acc => fun s => if plainAt s.e vs then (bindT T d (wipeE s.e vs)).bind fun e' => (mt { s with e := e' }).bind fun p => match p.1 with
    | .sh (.bl true) => (mk p.2).bind fun q => (esc (soft q.1) q.2).bind fun z => (kOf z.1).bind fun key => (mv z.2).bind fun q2 => (esc (soft q2.1) q2.2).bind fun z2 =>
      if acc.length < sizeLine then dcL vs T mt mk mv ds (putE acc (keyD key) z2.1) { z2.2 with e := backE s.e z2.2.e vs } else none
    | .sh (.bl false) => dcL vs T mt mk mv ds acc { p.2 with e := backE s.e p.2.e vs }
    | _ => none
    else none
def mDc {R : Type} (vs : List Nat) (mi : M R (List D)) (T : Tg) (mt mk mv : M R Vr) : M R Vr := fun s => (mi s).bind fun p => (dcL vs T mt mk mv p.1 [] p.2).map fun q => (.tmp (.dct false q.1), q.2)
structure MkD (g : G) (F : Hp) (e : List (Option Cell)) (σ : St) (H : Hp) (p : Addr) (av : List (Key × V)) : Prop where
  at_ : H p = some (.dK av)
  nf : F p = none
  no : ¬ Own σ e p
theorem MkD.keep {F F' H H' : Hp} {s s' : S g.R.S} {σ σ' : St} {p : Addr} {av : List (Key × V)} (m : MkD g F s.e σ H p av) (ft : ¬ g.R.foot p) (K : Keep g F s σ H F' s' σ' H') : MkD g F' s'.e σ' H' p av :=
  ⟨K.heap _ _ m.at_ m.no ft, K.nof _ _ m.at_ (fun _ z => nomatch z) m.nf m.no, fun z => by
    rcases K.own p z with z | z
    · exact m.no z
    · rw [m.at_] at z; cases z⟩
theorem tDc_of {vs : List Nat} {mi : M g.R.S (List D)} {T : Tg} {mt mk mv : M g.R.S Vr} {σ : St} {H : Hp} {Q : VK} (hT : ∀ j ∈ tSlots T, j ∈ vs) (h : tM g (mDc vs mi T mt mk mv) σ H Q) : tDc (tI g X mi) (tG g T) (tMB g mt) (tM g mk) (tM g mv) vs σ H (fun v H' => Ul X (Q v) H') := by
  obtain ⟨F, s, res, sf0, I, e, k⟩ := h
  unfold mDc at e
  obtain ⟨⟨ds, s1⟩, e1, e⟩ := Option.bind_eq_some_iff.mp e
  obtain ⟨⟨qf, sf⟩, e2, e⟩ := Option.map_eq_some_iff.mp e
  cases e
  refine ⟨F, s, ds, s1, I, e1, fun F1 H1 HL J I1 K1 l it p hp => ?_⟩
  have IL := I1.lock l
  have ft : ¬ g.R.foot p := IL.nofoot hp
  have x0 : Ext F1 HL F1 (upd HL p (.dK [])) := Ext.tmp IL.sub hp
  have no0 : ¬ Own σ s1.e p := fun z => by
    obtain ⟨o, e, _⟩ := (IL.own_at z).2.2
    rw [hp] at e; cases e
  refine ⟨fun i m H' => m = ds.length - i ∧ i ≤ ds.length ∧ ∃ F' s' av ad, Sim g F' s' σ H' ∧ Keep g F1 s1 σ HL F' s' σ H' ∧ MkD g F' s'.e σ H' p av ∧ RepK g F' av ad ∧ dcL vs T mt mk mv (ds.drop i) ad s' = some (qf, sf),
    ⟨_, rfl, Nat.zero_le _, F1, s1, [], [], IL.ext x0, Keep.ext x0, ⟨upd_same, IL.sub.free hp, no0⟩, .nil, by simpa using e2⟩, ?_⟩
  rintro i m H2 ⟨rfl, hi, F2, s2, av, ad, I2, K2, m2, r2, e2⟩
  have pr := Keep.pres IL K2
  by_cases hlt : i < ds.length
  · have hd : ds[i]? = some ds[i] := List.getElem?_eq_getElem hlt
    obtain ⟨go, yl⟩ := it.go F2 H2 K2.grow I2.sub pr i _ hd
    rw [List.drop_eq_getElem_cons hlt] at e2
    unfold dcL at e2
    cases pl : plainAt s2.e vs with
    | false => rw [pl] at e2; cases e2
    | true =>
    rw [pl, if_pos rfl] at e2
    obtain ⟨e', e3, e2⟩ := Option.bind_eq_some_iff.mp e2
    obtain ⟨⟨rt, s3⟩, e4, e2⟩ := Option.bind_eq_some_iff.mp e2
    refine .inr ⟨go, fun H' => ∃ F' s' av' ad', Sim g F' s' σ H' ∧ Keep g F1 s1 σ HL F' s' σ H' ∧ MkD g F' s'.e σ H' p av' ∧ RepK g F' av' ad' ∧ dcL vs T mt mk mv (ds.drop (i + 1)) ad' s' = some (qf, sf), fun H' ⟨F', s', av', ad', q⟩ => ⟨ds.length - (i + 1), by omega, rfl, hlt, F', s', av', ad', q⟩, fun x H3 hy => ?_⟩
    obtain ⟨F3, x3, r3⟩ := yl x H3 hy
    have I3 := I2.ext x3
    have K3 := K2.trans (Keep.ext x3) I3
    have m3 : MkD g F3 s2.e σ H3 p av := m2.keep ft (Keep.ext x3)
    have I3w := I3.wipe vs
    refine ⟨F3, _, _, e', I3w, r3, e3, fun σ4 I4 ow fr => ?_⟩
    have hlen : σ4.length = σ.length := by
      have h1 : e'.length = σ4.length := I4.len
      rw [← h1, bindT_len e3, wipeE_length, I3.len]
    have fr' : ∀ j, j ∉ vs → σ4[j]? = σ[j]? := fun j hj => by rw [fr j fun z => hj (hT j z), wipe_out hj]
    refine ⟨wipe_same hlen fr', ?_⟩
    have kb : ∀ {F5 H5 : Hp} {s5 : S g.R.S}, Keep g F3 { s2 with e := e' } σ4 H3 F5 s5 σ4 H5 → Sim g F5 s5 σ4 H5 → Sim g F5 { s5 with e := backE s2.e s5.e vs } σ H5 ∧ Keep g F3 s2 σ H3 F5 { s5 with e := backE s2.e s5.e vs } σ H5 := fun {F5 H5 s5} K5 I5 => by
      have I6 := Sim.back (vs := vs) I3 pl K5.grow I5 hlen fr'
      refine ⟨I6, ⟨fun a u e n nf => K5.heap a u e (fun z => n (ow a z).wipe) nf, K5.grow, fun a u e nt q n => K5.nof a u e nt q fun z => n (ow a z).wipe, fun a z => ?_, K5.there⟩⟩
      rcases K5.own a (z.back pl fr') with z | z
      · exact .inl (ow a z).wipe
      · exact .inr z
    cases rt with
    | tmp _ => cases e2
    | sl _ => cases e2
    | sh dt => cases dt with
      | bl b =>
        refine ⟨F3, _, b, s3, I4, e4, fun F5 H5 I5 K5 => ?_⟩
        obtain ⟨I6, K6⟩ := kb K5 I5
        cases b with
        | false =>
          refine iteF ⟨F5, _, av, ad, I6, K3.trans K6 I6, ?_, r2.mono (x3.le.trans K5.grow), e2⟩
          exact MkD.keep (s' := { s3 with e := backE s2.e s3.e vs }) m3 ft K6
        | true =>
          refine iteT ?_
          obtain ⟨⟨r5, s5⟩, e5, e2⟩ := Option.bind_eq_some_iff.mp e2
          obtain ⟨⟨d6, s6⟩, e6, e2⟩ := Option.bind_eq_some_iff.mp e2
          obtain ⟨key, ek, e2⟩ := Option.bind_eq_some_iff.mp e2
          obtain ⟨⟨r7, s7⟩, e7, e2⟩ := Option.bind_eq_some_iff.mp e2
          obtain ⟨⟨d8, s8⟩, e8, e2⟩ := Option.bind_eq_some_iff.mp e2
          replace e2 : (if ad.length < sizeLine then dcL vs T mt mk mv (ds.drop (i + 1)) (putE ad (keyD key) d8) { s8 with e := backE s2.e s8.e vs } else none) = some (qf, sf) := e2
          by_cases hsz : ad.length < sizeLine
          · rw [if_pos hsz] at e2
            refine tM_esc I5 e5 e6 fun F7 y H7 I7 K7 r7 => tM_esc I7 e7 e8 fun F9 z H9 I9 K9 r9 => ?_
            have K59 := (K5.trans K7 I7).trans K9 I9
            obtain ⟨I8, K8⟩ := kb K59 I9
            have K38 := K3.trans K8 I8
            have m8 : MkD g F9 (backE s2.e s8.e vs) σ H9 p av := MkD.keep (s' := { s8 with e := backE s2.e s8.e vs }) m3 ft K8
            have r8 : RepK g F9 av ad := r2.mono (x3.le.trans K59.grow)
            have hy' : y = kV key := by
              have hd6 := kOf_some ek
              subst hd6
              cases key with
              | inl i => exact Pk.int (H := H7) (.inl r7)
              | inr x => exact Pk.str (H := H7) (.inl r7)
            refine ⟨av, key, hy', m8.at_, by rw [r8.length]; exact hsz, F9, _, putK av key z, putE ad (keyD key) d8, I8.grow m8.nf m8.no ft, K38.grow' hp, ⟨upd_same, m8.nf, m8.no⟩, ?_, e2⟩
            exact r8.put key r9
          · rw [if_neg hsz] at e2; cases e2
      | _ => cases e2
  · have e' : i = ds.length := by omega
    subst e'
    rw [List.drop_length] at e2
    cases e2
    refine .inl ⟨it.stop F2 H2 K2.grow I2.sub pr, Sim.unlock I1 K1 l I2 K2 fun H' hk I' K' => k F2 _ H' I' K' ⟨p, .dK av, rfl, ?_, m2.nf, ft, m2.no, hk _ _ m2.nf m2.at_, .dK r2⟩⟩
    cases q : H p with
    | none => rfl
    | some u =>
      obtain ⟨o', z⟩ := K1.there p u q
      rw [l.free hp] at z; cases z
theorem d_dc {kx vx tg iter : Expr} {ifs : List Expr} {scope : Scope} {pos : Pos} {mi : M g.R.S (List D)} {T : Tg} {mt mk mv : M g.R.S Vr} {k : Nat} (own : List (Str × Nat)) (o : XO g k X) (hi : DI g X tg iter mi) (ok : BlkOk X.N X.env.scope scope own)
    (hg : ∀ (s : Shared) (H : Hp) (C : Addr) (cl : List (Str × Addr)) (fp : List Addr), PG (X.blk s H scope (compEnvC scope cl C X.env) fp) tg (tG g T)) (ht : ∀ (s : Shared) (H : Hp) (C : Addr) (cl : List (Str × Addr)) (fp : List Addr), DTs g (X.blk s H scope (compEnvC scope cl C X.env) fp) ifs mt)
    (hk : ∀ (s : Shared) (H : Hp) (C : Addr) (cl : List (Str × Addr)) (fp : List Addr), DE g (X.blk s H scope (compEnvC scope cl C X.env) fp) kx mk)
    (he : ∀ (s : Shared) (H : Hp) (C : Addr) (cl : List (Str × Addr)) (fp : List Addr), DE g (X.blk s H scope (compEnvC scope cl C X.env) fp) vx mv) (hT : ∀ j ∈ tSlots T, j ∈ own.map (·.2) := by decide) (hs : ∀ x, foldedSetIterable iter X.env x = pure x := by intro _; rfl) :
    DE g X (.DictComp kx vx [⟨tg, iter, ifs, 0⟩] scope pos) (mDc (own.map (·.2)) mi T mt mk mv) :=
  PE.imp (pe_un' (pe_dc (own := own) o.calm o.nd hi ok hg ht hk he hs)) fun σ H Q h => tDc_of hT h
end
end RW
namespace RW
open PySem L2
section
variable {g : G} {X : Cx}
/-! ### rules joined -/
theorem OpR.or {f : Value → Value → Sem Value} {r r' : R2} (h : OpR X f r) (h' : OpR X f r') : OpR X f (fun x y H Q => r x y H Q ∨ r' x y H Q) := fun pins s σ H x y v u Q I rx ry q => q.elim (h pins s σ H x y v u Q I rx ry) (h' pins s σ H x y v u Q I rx ry)
theorem CallR.or {f : Value} {r r' : List V → Hp → VK → Prop} (h : CallR X f r) (h' : CallR X f r') : CallR X f (fun xs H Q => r xs H Q ∨ r' xs H Q) := fun pins s σ H xs us Q I rx q => q.elim (h pins s σ H xs us Q I rx) (h' pins s σ H xs us Q I rx)
theorem PE.or {e : Expr} {t t' : TE} (h : PE X e t) (h' : PE X e t') : PE X e (fun σ H Q => t σ H Q ∨ t' σ H Q) := ⟨fun pins s σ H Q I q => q.elim (h.run pins s σ H Q I) (h'.run pins s σ H Q I)⟩
theorem PT.or {e : Expr} {t t' : TT} (h : PT X e t) (h' : PT X e t') : PT X e (fun σ H Q => t σ H Q ∨ t' σ H Q) := ⟨fun pins s σ H Q I q => q.elim (h.run pins s σ H Q I) (h'.run pins s σ H Q I)⟩
theorem Op2.or {f f' : D → D → Option Vr} {r r' : R2} (h : Op2 g f r) (h' : Op2 g f' r') : Op2 g (fun x y => match f x y with | some z => some z | none => f' x y) (fun x y H Q => r x y H Q ∨ r' x y H Q) := by
  refine ⟨fun x y z e i => ?_, fun F H x y dx dy z Q s p q e n => ?_⟩
  · cases h1 : f x y with
    | some w => rw [h1] at e; cases e; exact h.no _ _ _ h1 i
    | none => rw [h1] at e; exact h'.no _ _ _ e i
  · cases h1 : f dx dy with
    | some w => rw [h1] at e; cases e; exact .inl (h.ok _ _ _ _ _ _ _ _ s p q h1 n)
    | none => rw [h1] at e; exact .inr (h'.ok _ _ _ _ _ _ _ _ s p q e n)
theorem Op2.of {f f' : D → D → Option Vr} {r : R2} (h : Op2 g f r) (e : ∀ x y z, f' x y = some z → f x y = some z) : Op2 g f' r := ⟨fun x y z h1 => h.no x y z (e _ _ _ h1), fun F H x y dx dy z Q s p q h1 n => h.ok F H x y dx dy z Q s p q (e _ _ _ h1) n⟩
/-! ### ints -/
def o2I (f : Int → Int → Option D) : D → D → Option Vr
  | .int i, .int j => (f i j).map .sh
  | _, _ => none
theorem op2_int {f : Int → Int → Option D} {r : R2} (h : ∀ i j d H Q F, f i j = some d → (∀ v, Rep g F v d → Q v H) → r (.int i) (.int j) H Q) : Op2 g (o2I f) r := by
  refine ⟨fun x y z e i => ?_, fun F H x y dx dy z Q s p q e n => ?_⟩
  · cases x <;> first | cases e | skip
    cases y <;> first | cases e | skip
    obtain ⟨d, _, rfl⟩ := Option.map_eq_some_iff.mp e
    exact fun z => nomatch z
  · cases dx <;> first | cases e | skip
    cases dy <;> first | cases e | skip
    obtain ⟨d, h1, rfl⟩ := Option.map_eq_some_iff.mp e
    obtain rfl := p.int
    obtain rfl := q.int
    exact h _ _ d H Q F h1 fun v r => n F v H (Ext.refl s) r
theorem p_sub : Op2 g (o2I fun i j => some (.int (i - j))) (rI0 fun i j => .int (i - j)) := op2_int fun i j d H Q F e n => by cases e; exact ⟨i, j, rfl, rfl, n _ (.int _)⟩
def iMul (i j : Int) : Option D := if i.natAbs < 18446744073709551616 ∨ j.natAbs < 18446744073709551616 then some (.int (i * j)) else none
def iMod (i j : Int) : Option D := if 0 < j then some (.int (i % j)) else none
theorem p_mod : Op2 g (o2I iMod) (rI (fun _ j => 0 < j) fun i j => .int (i % j)) := op2_int fun i j d H Q F e n => by
  unfold iMod at e
  split at e
  · cases e; exact ⟨i, j, rfl, rfl, by assumption, n _ (.int _)⟩
  · cases e
def iDiv (i j : Int) : Option D := if 0 < j ∧ j.natAbs < 1073741824 then some (.int (i / j)) else none
theorem p_div : Op2 g (o2I iDiv) (rI CDiv fun i j => .int (i / j)) := op2_int fun i j d H Q F e n => by
  unfold iDiv at e
  split at e
  · rename_i h
    cases e; exact ⟨i, j, rfl, rfl, ⟨h.1, by omega⟩, n _ (.int _)⟩
  · cases e
def iPow (i j : Int) : Option D := if 0 ≤ j ∧ j ≤ 1000000 ∧ i.natAbs < 2 ^ 64 then some (.int (i ^ j.toNat)) else none
theorem p_pow : Op2 g (o2I iPow) (rI CPow fun i j => .int (i ^ j.toNat)) := op2_int fun i j d H Q F e n => by
  unfold iPow at e
  split at e
  · cases e; exact ⟨i, j, rfl, rfl, by assumption, n _ (.int _)⟩
  · cases e
/-! comparisons of ints -/
theorem p_le : Op2 g (o2I fun i j => some (.bl (decide (i ≤ j)))) (rI0 fun i j => .bl (decide (i ≤ j))) := op2_int fun i j d H Q F e n => by cases e; exact ⟨i, j, rfl, rfl, n _ (.bl _)⟩
theorem p_ge : Op2 g (o2I fun i j => some (.bl (decide (j ≤ i)))) (rI0 fun i j => .bl (decide (j ≤ i))) := op2_int fun i j d H Q F e n => by cases e; exact ⟨i, j, rfl, rfl, n _ (.bl _)⟩
end
/-! ### == at any depth -/
def toV : D → Option V
  | .non => some .non
  | .bl b => some (.bl b)
  | .int i => some (.int i)
  | .str x => some (.str x)
  | _ => none
def deqL (f : D → D → Option Bool) : List D → List D → Option Bool
  | x :: xs, y :: ys => (f x y).bind fun p => (deqL f xs ys).map fun q => p && q
  | _, _ => some true
def deqF : Nat → D → D → Option Bool
  | 0, _, _ => none
  | n + 1, d, e => match toV d, toV e with
    | some a, some b => some (eqV a b)
    | _, _ => match d, e with
      | .lst a, .lst b => if a.length = b.length then deqL (deqF n) a b else some false
      | .tup a, .tup b => (deqL (deqF n) a b).map fun r => r && decide (a.length = b.length)
      | _, _ => none
section
variable {g : G} {X : Cx}
theorem toV_pk {F H : Hp} {v : V} {d : D} {a : V} (e : toV d = some a) (p : Pk g F H v d) : v = a ∧ flatV a = true := by
  cases d <;> cases e
  · exact ⟨p.non, rfl⟩
  · exact ⟨p.bl, rfl⟩
  · exact ⟨p.int, rfl⟩
  · exact ⟨p.str, rfl⟩
theorem rc_flat {A : Around} {s : Shared} {x y : V} {u v : Value} (rx : RelV x u) (ry : RelV y v) (fx : flatV x = true) (fy : flatV y = true) : SeqAt.RcAt A s u v (eqV x y) ∧ SeqAt.RcNeAt A s u v (!eqV x y) := by
  cases x with
  | non =>
    cases rx
    cases y with
    | non => cases ry; exact ⟨.none_none, .none_none⟩
    | bl b => cases ry; exact ⟨.none_bool b, .none_bool b⟩
    | int j => obtain ⟨t, rfl⟩ := ry; exact ⟨.none_int j t, .none_int j t⟩
    | str z => obtain ⟨t, rfl⟩ := ry; exact ⟨.none_str z t, .none_str z t⟩
    | _ => cases fy
  | bl a =>
    cases rx
    cases y with
    | non => cases ry; exact ⟨.bool_none a, .bool_none a⟩
    | bl b => cases ry; exact ⟨.bool_bool a b, .bool_bool a b⟩
    | int j => obtain ⟨t, rfl⟩ := ry; exact ⟨.bool_int a j t, .bool_int a j t⟩
    | str z => obtain ⟨t, rfl⟩ := ry; exact ⟨.bool_str a z t, .bool_str a z t⟩
    | _ => cases fy
  | int i =>
    obtain ⟨t0, rfl⟩ := rx
    cases y with
    | non => cases ry; exact ⟨.int_none i t0, .int_none i t0⟩
    | bl b => cases ry; exact ⟨.int_bool i t0 b, .int_bool i t0 b⟩
    | int j => obtain ⟨t, rfl⟩ := ry; exact ⟨.int_int i t0 j t, .int_int i t0 j t⟩
    | str z => obtain ⟨t, rfl⟩ := ry; exact ⟨.int_str i t0 z t, .int_str i t0 z t⟩
    | _ => cases fy
  | str w =>
    obtain ⟨t0, rfl⟩ := rx
    cases y with
    | non => cases ry; exact ⟨.str_none w t0, .str_none w t0⟩
    | bl b => cases ry; exact ⟨.str_bool w t0 b, .str_bool w t0 b⟩
    | int j => obtain ⟨t, rfl⟩ := ry; exact ⟨.str_int w t0 j t, .str_int w t0 j t⟩
    | str z => obtain ⟨t, rfl⟩ := ry; exact ⟨.str_str w t0 z t, .str_str w t0 z t⟩
    | _ => cases fy
  | _ => cases fx
theorem eqV_refl {x : V} (h : flatV x = true) : eqV x x = true := by
  cases x <;> simp_all [eqV, flatV]
theorem deqF_inv {n : Nat} {d e : D} {b : Bool} (h : deqF (n + 1) d e = some b) : (∃ x y, toV d = some x ∧ toV e = some y ∧ b = eqV x y) ∨ (∃ ds es, d = .lst ds ∧ e = .lst es ∧ ((ds.length = es.length ∧ deqL (deqF n) ds es = some b) ∨ (ds.length ≠ es.length ∧ b = false))) ∨
    ∃ ds es r, d = .tup ds ∧ e = .tup es ∧ deqL (deqF n) ds es = some r ∧ b = (r && decide (ds.length = es.length)) := by
  unfold deqF at h
  split at h
  · rename_i x y h1 h2
    cases h
    exact .inl ⟨x, y, h1, h2, rfl⟩
  · split at h
    · rename_i ds es _
      refine .inr (.inl ⟨ds, es, rfl, rfl, ?_⟩)
      split at h
      · exact .inl ⟨by assumption, h⟩
      · cases h; exact .inr ⟨by assumption, rfl⟩
    · rename_i ds es _
      obtain ⟨r, h3, h4⟩ := Option.map_eq_some_iff.mp h
      exact .inr (.inr ⟨ds, es, r, rfl, rfl, h3, h4.symm⟩)
    · cases h
/-- the same value told twice is equal -/
theorem deq_same {pins : List (Addr × Obj)} {σ : St} {F H : Hp} {s : Shared} (I : Inv X pins σ H s) (hS : Sub F H) (hK : X.K = g.K) : ∀ (n : Nat) (d e : D) (b : Bool) (x : V), deqF n d e = some b → Pk g F H x d → Pk g F H x e → b = true
  | 0, _, _, _, _, h, _, _ => by cases h
  | n + 1, d, e, b, x, h, p, q => by
    have go : ∀ (xs : List V) (ds es : List D) (r : Bool), RepAll g F xs ds → RepAll g F xs es → deqL (deqF n) ds es = some r → r = true := by
      intro xs
      induction xs with
      | nil =>
        intro ds es r h1 h2 h3
        cases h1
        cases h2
        cases h3; rfl
      | cons y ys ih =>
        intro ds es r h1 h2 h3
        cases h1 with
        | cons a1 a2 => cases h2 with
          | cons b1 b2 =>
            unfold deqL at h3
            obtain ⟨p1, e1, h3⟩ := Option.bind_eq_some_iff.mp h3
            obtain ⟨p2, e2, h3⟩ := Option.map_eq_some_iff.mp h3
            rw [← h3, deq_same I hS hK n _ _ _ _ e1 (.inl a1) (.inl b1), ih _ _ _ a2 b2 e2]
            rfl
    rcases deqF_inv h with ⟨a, c, h1, h2, h3⟩ | ⟨ds, es, rfl, rfl, h3⟩ | ⟨ds, es, r, rfl, rfl, h3, h4⟩
    · obtain ⟨r1, f1⟩ := toV_pk h1 p
      obtain ⟨r2, _⟩ := toV_pk h2 q
      subst r1; subst r2
      rw [h3]; exact eqV_refl f1
    · obtain ⟨a, xs, rfl, e1, r1⟩ := p.lst hS
      obtain ⟨a', ys, z, e2, r2⟩ := q.lst hS
      cases z
      rw [e1] at e2; cases e2
      rcases h3 with ⟨_, h3⟩ | ⟨h3, _⟩
      · exact go _ _ _ _ r1 r2 h3
      · exact (h3 (by rw [← r1.length, ← r2.length])).elim
    · obtain ⟨a, xs, rfl, e1, r1⟩ := p.tup hS
      obtain ⟨a', ys, z, e2, r2⟩ := q.tup hS
      cases z
      have : xs = ys := by
        rw [← hK] at e1 e2
        exact I.tuple_inj e1 e2
      subst this
      rw [h4, go _ _ _ _ r1 r2 h3, ← r1.length, ← r2.length]
      simp
theorem deqL_all {f : D → D → Option Bool} : ∀ {ds es : List D} {r : Bool}, deqL f ds es = some r → ∃ b : Nat → Bool, r = ((List.range (min ds.length es.length)).all b) ∧ ∀ (j : Nat) (d e : D), ds[j]? = some d → es[j]? = some e → f d e = some (b j)
  | [], es, r, h => by
    have : r = true := by cases es <;> (cases h; rfl)
    subst this
    exact ⟨fun _ => true, by simp, fun j d e h1 => by cases h1⟩
  | d :: ds, [], r, h => by
    cases h
    exact ⟨fun _ => true, by simp, fun j d e _ h2 => by cases h2⟩
  | d :: ds, e :: es, r, h => by
    unfold deqL at h
    obtain ⟨p, h1, h⟩ := Option.bind_eq_some_iff.mp h
    obtain ⟨q, h2, h⟩ := Option.map_eq_some_iff.mp h
    obtain ⟨b, hb, hf⟩ := deqL_all h2
    refine ⟨fun j => match j with | 0 => p | j + 1 => b j, ?_, fun j d' e' h3 h4 => ?_⟩
    · rw [← h, hb]
      simp only [List.length_cons, Nat.succ_min_succ, List.range_succ_eq_map, List.all_cons, List.all_map]
      rfl
    · cases j with
      | zero => cases h3; cases h4; exact h1
      | succ j => exact hf j d' e' (by simpa using h3) (by simpa using h4)
theorem deq_run {pins : List (Addr × Obj)} {σ : St} {F H : Hp} {s : Shared} (I : Inv X pins σ H s) (hS : Sub F H) (hK : X.K = g.K) : ∀ (n : Nat) (d e : D) (b : Bool) (x y : V) (u v : Value) (A : Around), deqF n d e = some b → Pk g F H x d → Pk g F H y e → RelV x u → RelV y v → A.units + n < cLine →
    (SeqAt.RcAt A s u v b ∧ SeqAt.RcNeAt A s u v (!b)) ∧ SeqAt.EqAt A s u v b
  | 0, _, _, _, _, _, _, _, _, h, _, _, _, _, _ => by cases h
  | n + 1, d, e, b, x, y, u, v, A, h, p, q, rx, ry, hu => by
    have same := deq_same I hS hK (n + 1) d e b
    have items : ∀ {xs ys : List V} {us vs : List Value} {ds es : List D} {c : Nat → Bool}, RepAll g F xs ds → RepAll g F ys es → Vals xs us → Vals ys vs → (∀ (j : Nat) (d e : D), ds[j]? = some d → es[j]? = some e → deqF n d e = some (c j)) → ∀ j (h1 : j < us.toArray.size) (h2 : j < vs.toArray.size), SeqAt.EqAt A.in1 s us.toArray[j] vs.toArray[j] (c j) := by
      intro xs ys us vs ds es c r1 r2 w1 w2 hc j h1 h2
      have l1 := r1.length
      have l2 := r2.length
      have m1 := w1.length
      have m2 := w2.length
      rw [List.size_toArray] at h1 h2
      have hd : ds[j]? = some ds[j] := List.getElem?_eq_getElem (by omega)
      have he : es[j]? = some es[j] := List.getElem?_eq_getElem (by omega)
      obtain ⟨x', hx, rx'⟩ := r1.get hd
      obtain ⟨y', hy, ry'⟩ := r2.get he
      obtain ⟨u', hu', ru'⟩ := w1.get hx
      obtain ⟨v', hv', rv'⟩ := w2.get hy
      have z1 : us.toArray[j] = u' := by
        have := List.getElem?_eq_some_iff.mp hu'
        simpa using this.2
      have z2 : vs.toArray[j] = v' := by
        have := List.getElem?_eq_some_iff.mp hv'
        simpa using this.2
      rw [z1, z2]
      exact (deq_run I hS hK n _ _ _ x' y' u' v' A.in1 (hc j _ _ hd he) (.inl rx') (.inl ry') ru' rv' (by show A.units + 1 + n < cLine; omega)).2
    rcases deqF_inv h with ⟨a, c, h1, h2, h3⟩ | ⟨ds, es, rfl, rfl, h3⟩ | ⟨ds, es, r, rfl, rfl, h3, h4⟩
    · obtain ⟨r1, f1⟩ := toV_pk h1 p
      obtain ⟨r2, f2⟩ := toV_pk h2 q
      subst r1; subst r2; subst h3
      exact ⟨rc_flat rx ry f1 f2, eqAt_V rx ry f1 f2⟩
    · obtain ⟨a, xs, rfl, e1, r1⟩ := p.lst hS
      obtain ⟨a', ys, rfl, e2, r2⟩ := q.lst hS
      obtain rfl : u = .ref a := rx
      obtain rfl : v = .ref a' := ry
      obtain ⟨us, w1, ⟨o1, n1, p1, p2, _, p3⟩, _⟩ := I.list (SqL.of e1)
      obtain ⟨vs, w2, ⟨o2, n2, q1, q2, _, q3⟩, _⟩ := I.list (SqL.of e2)
      have L1 : s.heap.IsList a us.toArray := ⟨o1, p1, p2, n1, p3⟩
      have L2 : s.heap.IsList a' vs.toArray := ⟨o2, q1, q2, n2, q3⟩
      have rc : SeqAt.RcAt A s (.ref a) (.ref a') b ∧ SeqAt.RcNeAt A s (.ref a) (.ref a') (!b) := by
        rcases h3 with ⟨hl, h3⟩ | ⟨hl, h3⟩
        · obtain ⟨c, hb, hc⟩ := deqL_all h3
          have hsz : us.toArray.size = vs.toArray.size := by
            have := r1.length; have := r2.length; have := w1.length; have := w2.length
            simp only [List.size_toArray]; omega
          have hr : min ds.length es.length = us.toArray.size := by
            have := r1.length; have := w1.length
            simp only [List.size_toArray]; omega
          rw [hb, hr]
          exact ⟨SeqAt.RcAt.lists L1 L2 hsz (by omega) (items r1 r2 w1 w2 hc), SeqAt.RcNeAt.lists L1 L2 hsz (by omega) (items r1 r2 w1 w2 hc)⟩
        · have hsz : (us.toArray.size != vs.toArray.size) = true := by
            have := r1.length; have := r2.length; have := w1.length; have := w2.length
            simp only [List.size_toArray, bne_iff_ne]; omega
          subst h3
          exact ⟨SeqAt.RcAt.lists_lengths L1 L2 hsz (by omega), SeqAt.RcNeAt.lists_lengths L1 L2 hsz (by omega)⟩
      refine ⟨rc, ?_⟩
      by_cases z : a = a'
      · subst z
        rw [same _ h p q]
        exact .same _
      · exact SeqAt.EqAt.of_refs z rc.1
    · obtain ⟨a, xs, rfl, e1, r1⟩ := p.tup hS
      obtain ⟨a', ys, rfl, e2, r2⟩ := q.tup hS
      obtain rfl : u = .ref a := rx
      obtain rfl : v = .ref a' := ry
      rw [← hK] at e1 e2
      obtain ⟨us, w1, ⟨o1, p1, p2, n1, p3⟩, _⟩ := I.tuple e1
      obtain ⟨vs, w2, ⟨o2, q1, q2, n2, q3⟩, _⟩ := I.tuple e2
      have L1 : s.heap.IsTuple a us.toArray := ⟨o1, p1, p2, n1, p3⟩
      have L2 : s.heap.IsTuple a' vs.toArray := ⟨o2, q1, q2, n2, q3⟩
      obtain ⟨c, hb, hc⟩ := deqL_all h3
      have e3 : min ds.length es.length = min us.toArray.size vs.toArray.size := by
        have := r1.length; have := r2.length; have := w1.length; have := w2.length
        simp only [List.size_toArray]; omega
      have e4 : decide (ds.length = es.length) = (us.toArray.size == vs.toArray.size) := by
        have := r1.length; have := r2.length; have := w1.length; have := w2.length
        rw [Bool.eq_iff_iff]
        simp only [List.size_toArray, decide_eq_true_eq, beq_iff_eq]; omega
      have rc : SeqAt.RcAt A s (.ref a) (.ref a') b ∧ SeqAt.RcNeAt A s (.ref a) (.ref a') (!b) := by
        rw [h4, hb, e3, e4]
        exact ⟨SeqAt.RcAt.tuples L1 L2 (by omega) (items r1 r2 w1 w2 hc), SeqAt.RcNeAt.tuples L1 L2 (by omega) (items r1 r2 w1 w2 hc)⟩
      refine ⟨rc, ?_⟩
      by_cases z : a = a'
      · subst z
        rw [same _ h p q]
        exact .same _
      · exact SeqAt.EqAt.of_refs z rc.1
def eqD (x y : D) : Option Vr := (deqF 60 x y).map fun b => .sh (.bl b)
def neD (x y : D) : Option Vr := (deqF 60 x y).map fun b => .sh (.bl (!b))
def rEqL (g : G) : R2 := fun x y H Q => ∃ F d e b, Sub F H ∧ Pk g F H x d ∧ Pk g F H y e ∧ deqF 60 d e = some b ∧ Q (.bl b) H
def rNeL (g : G) : R2 := fun x y H Q => ∃ F d e b, Sub F H ∧ Pk g F H x d ∧ Pk g F H y e ∧ deqF 60 d e = some b ∧ Q (.bl (!b)) H
theorem op_eqL {k : Nat} (o : XO g k X) : OpR X (compareOp .Eq) (rEqL g) := by
  intro pins s σ H x y v u Q I rx ry ⟨F, d, e, b, hS, p, q, h, k⟩
  exact (deq_run I hS o.K 60 d e b x y v u X.A h p q rx ry (by have := o.hu64; omega)).1.1 _ _ _ _ ⟨.bl b, H, I, rfl, k⟩
theorem op_neL {k : Nat} (o : XO g k X) : OpR X (compareOp .NotEq) (rNeL g) := by
  intro pins s σ H x y v u Q I rx ry ⟨F, d, e, b, hS, p, q, h, k⟩
  exact (deq_run I hS o.K 60 d e b x y v u X.A h p q rx ry (by have := o.hu64; omega)).1.2 _ _ _ _ ⟨.bl (!b), H, I, rfl, k⟩
theorem p_eq : Op2 g eqD (rEqL g) := by
  refine ⟨fun x y z e i => ?_, fun F H x y dx dy z Q s p q e n => ?_⟩
  · obtain ⟨b, _, rfl⟩ := Option.map_eq_some_iff.mp e
    exact fun z => nomatch z
  · obtain ⟨b, h, rfl⟩ := Option.map_eq_some_iff.mp e
    exact ⟨F, dx, dy, b, s, p, q, h, n F _ H (Ext.refl s) (.bl b)⟩
theorem p_ne : Op2 g neD (rNeL g) := by
  refine ⟨fun x y z e i => ?_, fun F H x y dx dy z Q s p q e n => ?_⟩
  · obtain ⟨b, _, rfl⟩ := Option.map_eq_some_iff.mp e
    exact fun z => nomatch z
  · obtain ⟨b, h, rfl⟩ := Option.map_eq_some_iff.mp e
    exact ⟨F, dx, dy, b, s, p, q, h, n F _ H (Ext.refl s) (.bl (!b))⟩
end
end RW
namespace RW
open PySem L2
section
variable {g : G} {X : Cx}
/-! ### ends of operations -/
theorem Fin.q {F H : Hp} {d : D} {Q : VK} (n : Fin g F H (.sh d) Q) (s : Sub F H) {v : V} (r : Rep g F v d) : Q v H := n F v H (Ext.refl s) r
theorem Fin.newT {F H : Hp} {ds : List D} {xs : List V} {Q : VK} (n : Fin g F H (.sh (.tup ds)) Q) (s : Sub F H) (r : RepAll g F xs ds) (p : Addr) (hp : H p = none) : Q (.ref p) (upd H p (.tup xs)) :=
  n _ _ _ (Ext.new s hp) (.tup upd_same (r.mono (upd_le (s.free hp))))
theorem Fin.newO {F H : Hp} {d : D} {o : HO} {Q : VK} (n : Fin g F H (.tmp d) Q) (s : Sub F H) (r : RepO g F o d) (p : Addr) (hp : H p = none) : Q (.ref p) (upd H p o) :=
  n F p o _ (Ext.tmp s hp) hp (s.free hp) upd_same r
theorem RepAll.app {F : Hp} : ∀ {xs ys : List V} {ds es : List D}, RepAll g F xs ds → RepAll g F ys es → RepAll g F (xs ++ ys) (ds ++ es)
  | _, _, _, _, .nil, h => h
  | _, _, _, _, .cons a b, h => .cons a (RepAll.app b h)
theorem RepAll.take {F : Hp} : ∀ {xs : List V} {ds : List D} (n : Nat), RepAll g F xs ds → RepAll g F (xs.take n) (ds.take n)
  | _, _, 0, _ => by simp; exact .nil
  | _, _, _ + 1, .nil => .nil
  | _, _, n + 1, .cons a b => .cons a (RepAll.take n b)
theorem RepAll.drop {F : Hp} : ∀ {xs : List V} {ds : List D} (n : Nat), RepAll g F xs ds → RepAll g F (xs.drop n) (ds.drop n)
  | _, _, 0, h => h
  | _, _, _ + 1, .nil => .nil
  | _, _, n + 1, .cons a b => RepAll.drop n b
theorem RepAll.rep {F : Hp} {xs : List V} {ds : List D} (h : RepAll g F xs ds) : ∀ n : Nat, RepAll g F (List.replicate n xs).flatten (List.replicate n ds).flatten
  | 0 => .nil
  | n + 1 => by simp only [List.replicate_succ, List.flatten_cons]; exact h.app (RepAll.rep h n)
/-! ### + -/
def addD : D → D → Option Vr
  | .int i, .int j => some (.sh (.int (i + j)))
  | .str x, .str y => if x.length + y.length ≤ sizeLine then some (.sh (.str (x ++ y))) else none
  | .lst a, .lst b => if a.length + b.length ≤ sizeLine then some (.tmp (.lst (a ++ b))) else none
  | .tup a, .tup b => if a.length + b.length ≤ sizeLine then some (.sh (.tup (a ++ b))) else none
  | _, _ => none
def rAddD (K : PySem.W.Frag) : R2 := fun x y H Q => ((rI0 fun i j => .int (i + j)) x y H Q ∨ (∃ i j, x = .str i ∧ y = .str j ∧ i.length + j.length ≤ sizeLine ∧ Q (.str (i ++ j)) H)) ∨ (rCat x y H Q ∨ rCatA K x y H Q)
theorem op_addD : OpR X (binaryOp .Add) (rAddD X.K) := OpR.or (OpR.or op_add op_add_str) (OpR.or op_cat op_catA)
theorem p_addD : Op2 g addD (rAddD g.K) := by
  refine ⟨fun x y z e i => ?_, fun F H x y dx dy z Q s p q e n => ?_⟩
  · unfold addD at e
    split at e <;> first | cases e; exact fun z => nomatch z | (split at e <;> first | cases e; exact fun z => nomatch z | cases e) | cases e
  · unfold addD at e
    split at e
    · cases e
      obtain rfl := p.int
      obtain rfl := q.int
      exact .inl (.inl ⟨_, _, rfl, rfl, n.q s (.int _)⟩)
    · split at e
      · cases e
        obtain rfl := p.str
        obtain rfl := q.str
        exact .inl (.inr ⟨_, _, rfl, rfl, by assumption, n.q s (.str _)⟩)
      · cases e
    · split at e
      · cases e
        obtain ⟨a, xs, rfl, e1, r1⟩ := p.lst s
        obtain ⟨b, ys, rfl, e2, r2⟩ := q.lst s
        exact .inr (.inl ⟨a, b, xs, ys, rfl, rfl, e1, e2, by rw [r1.length, r2.length]; assumption, fun p hp => n.newO s (.lst (r1.app r2)) p hp⟩)
      · cases e
    · split at e
      · cases e
        obtain ⟨a, xs, rfl, e1, r1⟩ := p.tup s
        obtain ⟨b, ys, rfl, e2, r2⟩ := q.tup s
        refine .inr (.inr ⟨a, b, xs, ys, rfl, rfl, e1, e2, by rw [r1.length, r2.length]; assumption, fun z => ?_, fun _ z => ?_, fun _ _ p hp => n.newT s (r1.app r2) p hp⟩)
        · subst z
          cases r1
          rcases q with q | ⟨_, _, _, _, q⟩
          · exact n.q s q
          · cases q
        · subst z
          cases r2
          rcases p with p | ⟨_, _, _, _, p⟩
          · refine n.q s ?_
            simpa using p
          · cases p
      · cases e
    · cases e
theorem d_add {a b : Expr} {ma mb : M g.R.S Vr} {pos : Pos} {k : Nat} (o : XO g k X) (ha : DE g X a ma) (hb : DE g X b mb) : DE g X (.BinOp a .Add b pos) (mOp2 addD ma mb) := d_bin (by rw [← o.K]; exact op_addD) p_addD ha hb
theorem d_sub {a b : Expr} {ma mb : M g.R.S Vr} {pos : Pos} (ha : DE g X a ma) (hb : DE g X b mb) : DE g X (.BinOp a .Sub b pos) (mOp2 (o2I fun i j => some (.int (i - j))) ma mb) := d_bin op_sub p_sub ha hb
theorem d_mod {a b : Expr} {ma mb : M g.R.S Vr} {pos : Pos} (ha : DE g X a ma) (hb : DE g X b mb) : DE g X (.BinOp a .Mod b pos) (mOp2 (o2I iMod) ma mb) := d_bin op_mod p_mod ha hb
theorem d_div {a b : Expr} {ma mb : M g.R.S Vr} {pos : Pos} (ha : DE g X a ma) (hb : DE g X b mb) : DE g X (.BinOp a .FloorDiv b pos) (mOp2 (o2I iDiv) ma mb) := d_bin op_fdiv p_div ha hb
theorem d_pow {a b : Expr} {ma mb : M g.R.S Vr} {pos : Pos} (ha : DE g X a ma) (hb : DE g X b mb) : DE g X (.BinOp a .Pow b pos) (mOp2 (o2I iPow) ma mb) := d_bin op_pow p_pow ha hb
/-! ### * -/
def mulD : D → D → Option Vr
  | .int i, .int j => (iMul i j).map .sh
  | .lst a, .int k => if k.natAbs ≤ 16777216 ∧ a.length * k.toNat ≤ sizeLine then some (.tmp (.lst (List.replicate k.toNat a).flatten)) else none
  | _, _ => none
theorem p_mulD : Op2 g mulD (fun x y H Q => rI CMul (fun i j => .int (i * j)) x y H Q ∨ rRep x y H Q) := by
  refine ⟨fun x y z e i => ?_, fun F H x y dx dy z Q s p q e n => ?_⟩
  · unfold mulD at e
    split at e
    · obtain ⟨d, _, rfl⟩ := Option.map_eq_some_iff.mp e; exact fun z => nomatch z
    · split at e
      · cases e; exact fun z => nomatch z
      · cases e
    · cases e
  · unfold mulD at e
    split at e
    · obtain ⟨d, h, rfl⟩ := Option.map_eq_some_iff.mp e
      obtain rfl := p.int
      obtain rfl := q.int
      unfold iMul at h
      split at h
      · rename_i hc
        cases h; exact .inl ⟨_, _, rfl, rfl, hc.imp (fun h => ⟨by omega, by omega⟩) (fun h => ⟨by omega, by omega⟩), n.q s (.int _)⟩
      · cases h
    · split at e
      · rename_i h
        cases e
        obtain ⟨a, xs, rfl, e1, r1⟩ := p.lst s
        obtain rfl := q.int
        exact .inr ⟨a, _, xs, rfl, rfl, e1, by omega, by omega, by rw [r1.length]; exact h.2, fun p hp => n.newO s (.lst (r1.rep _)) p hp⟩
      · cases e
    · cases e
theorem d_mul {a b : Expr} {ma mb : M g.R.S Vr} {pos : Pos} (ha : DE g X a ma) (hb : DE g X b mb) : DE g X (.BinOp a .Mult b pos) (mOp2 mulD ma mb) := d_bin (OpR.or op_mul op_rep) p_mulD ha hb
def negD : D → Option Vr
  | .int i => some (.sh (.int (-i)))
  | _ => none
theorem d_neg {a : Expr} {ma : M g.R.S Vr} {pos : Pos} (ha : DE g X a ma) : DE g X (.UnaryOp .USub a pos) (mOp1 negD ma) := by
  refine d_un un_neg ⟨fun x z e i => ?_, fun F H x dx z Q s p e n => ?_⟩ ha
  · cases x <;> cases e
    exact fun z => nomatch z
  · cases dx <;> cases e
    obtain rfl := p.int
    exact ⟨_, rfl, n.q s (.int _)⟩
/-! ### ==, !=, < -/
theorem d_eq {a b : Expr} {ma mb : M g.R.S Vr} {pos : Pos} {k : Nat} (o : XO g k X) (ha : DE g X a ma) (hb : DE g X b mb) : DE g X (.Compare a [.Eq] [b] pos) (mOp2 eqD ma mb) := d_cmp (op_eqL o) p_eq ha hb (nobehind _ (by decide) (by decide))
theorem t_eq {a b : Expr} {ma mb : M g.R.S Vr} {pos : Pos} {k : Nat} (o : XO g k X) (ha : DE g X a ma) (hb : DE g X b mb) : DT g X (.Compare a [.Eq] [b] pos) (mOp2 eqD ma mb) := t_cmp (op_eqL o) p_eq ha hb (nobehind _ (by decide) (by decide))
theorem d_ne {a b : Expr} {ma mb : M g.R.S Vr} {pos : Pos} {k : Nat} (o : XO g k X) (ha : DE g X a ma) (hb : DE g X b mb) : DE g X (.Compare a [.NotEq] [b] pos) (mOp2 neD ma mb) := d_cmp (op_neL o) p_ne ha hb (nobehind _ (by decide) (by decide))
theorem t_ne {a b : Expr} {ma mb : M g.R.S Vr} {pos : Pos} {k : Nat} (o : XO g k X) (ha : DE g X a ma) (hb : DE g X b mb) : DT g X (.Compare a [.NotEq] [b] pos) (mOp2 neD ma mb) := t_cmp (op_neL o) p_ne ha hb (nobehind _ (by decide) (by decide))
def ltD : D → D → Option Vr
  | .int i, .int j => some (.sh (.bl (decide (i < j))))
  | .str x, .str y => some (.sh (.bl (decide (x.cps.toList < y.cps.toList))))
  | _, _ => none
theorem op_ltD : OpR X (compareOp .Lt) (fun x y H Q => (rI0 fun i j => .bl (decide (i < j))) x y H Q ∨ ∃ i j, x = .str i ∧ y = .str j ∧ Q (.bl (decide (i.cps.toList < j.cps.toList))) H) := OpR.or op_lt op_lt_str
theorem p_ltD : Op2 g ltD (fun x y H Q => (rI0 fun i j => .bl (decide (i < j))) x y H Q ∨ ∃ i j, x = .str i ∧ y = .str j ∧ Q (.bl (decide (i.cps.toList < j.cps.toList))) H) := by
  refine ⟨fun x y z e i => ?_, fun F H x y dx dy z Q s p q e n => ?_⟩
  · unfold ltD at e
    split at e <;> cases e <;> exact fun z => nomatch z
  · unfold ltD at e
    split at e
    · cases e
      obtain rfl := p.int
      obtain rfl := q.int
      exact .inl ⟨_, _, rfl, rfl, n.q s (.bl _)⟩
    · cases e
      obtain rfl := p.str
      obtain rfl := q.str
      exact .inr ⟨_, _, rfl, rfl, n.q s (.bl _)⟩
    · cases e
theorem d_lt {a b : Expr} {ma mb : M g.R.S Vr} {pos : Pos} (ha : DE g X a ma) (hb : DE g X b mb) : DE g X (.Compare a [.Lt] [b] pos) (mOp2 ltD ma mb) := d_cmp op_ltD p_ltD ha hb (nobehind _ (by decide) (by decide))
theorem t_lt {a b : Expr} {ma mb : M g.R.S Vr} {pos : Pos} (ha : DE g X a ma) (hb : DE g X b mb) : DT g X (.Compare a [.Lt] [b] pos) (mOp2 ltD ma mb) := t_cmp op_ltD p_ltD ha hb (nobehind _ (by decide) (by decide))
abbrev leI : D → D → Option Vr := o2I fun i j => some (.bl (decide (i ≤ j)))
abbrev gtI : D → D → Option Vr := o2I fun i j => some (.bl (decide (j < i)))
abbrev geI : D → D → Option Vr := o2I fun i j => some (.bl (decide (j ≤ i)))
theorem t_le {a b : Expr} {ma mb : M g.R.S Vr} {pos : Pos} (ha : DE g X a ma) (hb : DE g X b mb) : DT g X (.Compare a [.LtE] [b] pos) (mOp2 leI ma mb) := t_cmp op_le p_le ha hb (nobehind _ (by decide) (by decide))
theorem t_ge {a b : Expr} {ma mb : M g.R.S Vr} {pos : Pos} (ha : DE g X a ma) (hb : DE g X b mb) : DT g X (.Compare a [.GtE] [b] pos) (mOp2 geI ma mb) := t_cmp op_ge p_ge ha hb (nobehind _ (by decide) (by decide))
/-- 1 <= x <= n -/
theorem d_lele {a b c : Expr} {ma mb mc : M g.R.S Vr} {pos : Pos} (ha : DE g X a ma) (hb : DE g X b mb) (hc : DE g X c mc) (hm : lastMarks [.LtE, .LtE] [b, c] = false := by with_unfolding_all rfl) : DE g X (.Compare a [.LtE, .LtE] [b, c] pos) (mChain leI leI ma mb mc) := d_chain op_le p_le op_le p_le ha hb hc hm
/-! ### is None -/
def isN : D → Option Vr
  | .non => some (.sh (.bl true))
  | _ => some (.sh (.bl false))
def notN : D → Option Vr
  | .non => some (.sh (.bl false))
  | _ => some (.sh (.bl true))
theorem pk_non {F H : Hp} {v : V} {d : D} (p : Pk g F H v d) : decide (v = .non) = (match d with | .non => true | _ => false) := by
  rcases p with p | ⟨a, o, rfl, _, p⟩
  · cases p with
    | ref _ q => cases q <;> simp
    | _ => simp
  · cases p <;> simp
theorem tIs_of {ma : M g.R.S Vr} {σ : St} {H : Hp} {Q : VK} (h : tM g (mOp1 isN ma) σ H Q) : tIsN (tM g ma) σ H Q := by
  refine tOp1_of (r := fun x H Q => Q (.bl (decide (x = .non))) H) ⟨fun x z e i => ?_, fun F H x dx z Q s p e n => ?_⟩ h
  · cases x <;> (cases e; exact fun z => nomatch z)
  · rw [pk_non p]
    cases dx <;> (cases e; exact n.q s (.bl _))
theorem tNot_of {ma : M g.R.S Vr} {σ : St} {H : Hp} {Q : VK} (h : tM g (mOp1 notN ma) σ H Q) : tNotN (tM g ma) σ H Q := by
  refine tOp1_of (r := fun x H Q => Q (.bl (!decide (x = .non))) H) ⟨fun x z e i => ?_, fun F H x dx z Q s p e n => ?_⟩ h
  · cases x <;> (cases e; exact fun z => nomatch z)
  · rw [pk_non p]
    cases dx <;> (cases e; exact n.q s (.bl _))
theorem d_isN {a : Expr} {ma : M g.R.S Vr} {j pos' pos} (ha : DE g X a ma) : DE g X (.Compare a [.Is] [.Constant .none j pos'] pos) (mOp1 isN ma) := PE.imp (pe_cmp (pc_isN ha)) fun _ _ _ h => tIs_of h
theorem t_isN {a : Expr} {ma : M g.R.S Vr} {j pos' pos} (ha : DE g X a ma) : DT g X (.Compare a [.Is] [.Constant .none j pos'] pos) (mOp1 isN ma) := PT.imp (pt_cmp (pc_isN ha)) fun _ _ _ h => tTest_of (t := tIsN (tM g ma)) (fun _ _ _ h => tIs_of h) h
theorem t_notN {a : Expr} {ma : M g.R.S Vr} {j pos' pos} (ha : DE g X a ma) : DT g X (.Compare a [.IsNot] [.Constant .none j pos'] pos) (mOp1 notN ma) := PT.imp (pt_cmp (pc_notN ha)) fun _ _ _ h => tTest_of (t := tNotN (tM g ma)) (fun _ _ _ h => tNot_of h) h
/-! ### in -/
def toVs : List D → Option (List V)
  | [] => some []
  | d :: ds => (toV d).bind fun v => (toVs ds).map fun vs => v :: vs
/-- x in y -/
def inB : D → D → Option Bool
  | x, .dct false es => match x with
    | .int i => some (getE es (.int i)).isSome
    | .str z => some (getE es (.str z)).isSome
    | .non => some false
    | _ => none
  | .str x, .str y => match x.cps.toList with
    | [c] => some (decide (c ∈ y.cps.toList))
    | _ => none
  | x, .lst ds => (toV x).bind fun v => (toVs ds).map fun vs => inV v vs
  | x, .tup ds => (toV x).bind fun v => (toVs ds).map fun vs => inV v vs
  | _, _ => none
def inD (x y : D) : Option Vr := (inB x y).map fun b => .sh (.bl b)
def ninD (x y : D) : Option Vr := (inB x y).map fun b => .sh (.bl (!b))
theorem toVs_pk {F : Hp} : ∀ {xs : List V} {ds : List D} {vs : List V}, RepAll g F xs ds → toVs ds = some vs → xs = vs ∧ vs.all flatV = true
  | _, _, _, .nil, e => by cases e; exact ⟨rfl, rfl⟩
  | _, _, _, .cons a b, e => by
    unfold toVs at e
    obtain ⟨v, e1, e⟩ := Option.bind_eq_some_iff.mp e
    obtain ⟨vs, e2, e⟩ := Option.map_eq_some_iff.mp e
    cases e
    obtain ⟨h1, h2⟩ := toV_pk (H := F) e1 (.inl a)
    obtain ⟨h3, h4⟩ := toVs_pk b e2
    exact ⟨by rw [h1, h3], by simp [h2, h4]⟩
/-- what in asks of a sequence or a text -/
def rInQ (K : PySem.W.Frag) (f : Bool → Bool) : R2 := fun x y H Q => (∃ p xs, y = .ref p ∧ (SqL K H p xs ∨ SqT K H p xs) ∧ flatV x = true ∧ xs.all flatV = true ∧ Q (.bl (f (inV x xs))) H) ∨ ∃ (c : Nat) (z : Str), x = .str ⟨#[c]⟩ ∧ y = .str z ∧ Q (.bl (f (decide (c ∈ z.cps.toList)))) H
theorem op_inQ : OpR X (compareOp .In) (rInQ X.K id) := by
  intro pins s σ H x y v u Q I rx ry h
  rcases h with ⟨p, xs, h1, h2, h3, h4, h5⟩ | h
  · exact op_in_seq pins s σ H x y v u Q I rx ry ⟨p, xs, h1, h2, h3, h4, h5⟩
  · exact op_in_sign pins s σ H x y v u Q I rx ry h
theorem op_ninQ : OpR X (compareOp .NotIn) (rInQ X.K (!·)) := by
  intro pins s σ H x y v u Q I rx ry h
  rcases h with ⟨p, xs, h1, h2, h3, h4, h5⟩ | h
  · exact op_notIn_seq pins s σ H x y v u Q I rx ry ⟨p, xs, h1, h2, h3, h4, h5⟩
  · exact op_notIn_sign pins s σ H x y v u Q I rx ry h
def seqIn (f : Bool → Bool) (x y : D) : Option Vr := match y with
  | .dct _ _ => none
  | y => (inB x y).map fun b => .sh (.bl (f b))
def dctIn (f : Bool → Bool) (x y : D) : Option Vr := match y with
  | .dct t es => (inB x (.dct t es)).map fun b => .sh (.bl (f b))
  | _ => none
theorem p_seqIn {f : Bool → Bool} : Op2 g (seqIn f) (rInQ g.K f) := by
  refine ⟨fun x y z e i => ?_, fun F H x y dx dy z Q s p q e n => ?_⟩
  · unfold seqIn at e
    split at e
    · cases e
    · obtain ⟨b, _, rfl⟩ := Option.map_eq_some_iff.mp e
      exact fun z => nomatch z
  · unfold seqIn at e
    split at e
    · cases e
    · rename_i hnd
      obtain ⟨b, h, rfl⟩ := Option.map_eq_some_iff.mp e
      have fl : ∀ {ds : List D} {xs : List V}, RepAll g F xs ds → ((toV dx).bind fun v => (toVs ds).map fun vs => inV v vs) = some b → flatV x = true ∧ xs.all flatV = true ∧ inV x xs = b := fun {ds xs} r e => by
        obtain ⟨v, e1, e⟩ := Option.bind_eq_some_iff.mp e
        obtain ⟨vs, e2, e⟩ := Option.map_eq_some_iff.mp e
        obtain ⟨h1, h2⟩ := toV_pk e1 p
        obtain ⟨h3, h4⟩ := toVs_pk r e2
        subst h1; subst h3
        exact ⟨h2, h4, e⟩
      cases dy with
      | lst ds =>
        have h' : ((toV dx).bind fun v => (toVs ds).map fun vs => inV v vs) = some b := by cases dx <;> exact h
        obtain ⟨a, xs, rfl, e1, r1⟩ := q.lst s
        obtain ⟨h1, h2, h3⟩ := fl r1 h'
        exact .inl ⟨a, xs, rfl, .inl (SqL.of e1), h1, h2, by rw [h3]; exact n.q s (.bl _)⟩
      | tup ds =>
        have h' : ((toV dx).bind fun v => (toVs ds).map fun vs => inV v vs) = some b := by cases dx <;> exact h
        obtain ⟨a, xs, rfl, e1, r1⟩ := q.tup s
        obtain ⟨h1, h2, h3⟩ := fl r1 h'
        exact .inl ⟨a, xs, rfl, .inr e1, h1, h2, by rw [h3]; exact n.q s (.bl _)⟩
      | str y' =>
        cases dx with
        | str x' =>
          obtain rfl := p.str
          obtain rfl := q.str
          replace h : (match x'.cps.toList with | [c] => some (decide (c ∈ y'.cps.toList)) | _ => none) = some b := h
          split at h
          · rename_i c hc
            cases h
            have : x' = ⟨#[c]⟩ := by
              cases x' with
              | mk a => congr; exact Array.toList_inj.mp (by simpa using hc)
            subst this
            exact .inr ⟨c, y', rfl, rfl, n.q s (.bl _)⟩
          · cases h
        | _ => cases h
      | dct t es => exact (hnd t es rfl).elim
      | _ => cases dx <;> cases h
def tInD (f : Bool → Bool) (ty td : TE) : TE := fun σ H Q => ty σ H fun y H1 => td σ H1 fun x H2 => (∃ a o, x = .ref a ∧ DGet H2 a y o ∧ Q (.bl (f o.isSome)) H2) ∨ ∃ a kvs, x = .ref a ∧ y = .non ∧ Rd H2 a (.dK kvs) ∧ Q (.bl (f false)) H2
theorem tInD_of {f : Bool → Bool} {ma mb : M g.R.S Vr} {σ : St} {H : Hp} {Q : VK} (h : tM g (mOp2 (dctIn f) ma mb) σ H Q) : tInD f (tM g ma) (tM g mb) σ H Q := by
  refine tOp2_of (r := fun y x H2 Q => (∃ a o, x = .ref a ∧ DGet H2 a y o ∧ Q (.bl (f o.isSome)) H2) ∨ ∃ a kvs, x = .ref a ∧ y = .non ∧ Rd H2 a (.dK kvs) ∧ Q (.bl (f false)) H2) ⟨fun x y z e i => ?_, fun F H x y dx dy z Q s p q e n => ?_⟩ h
  · unfold dctIn at e
    split at e
    · obtain ⟨b, _, rfl⟩ := Option.map_eq_some_iff.mp e
      exact fun z => nomatch z
    · cases e
  · unfold dctIn at e
    split at e
    · rename_i t es
      obtain ⟨b, h, rfl⟩ := Option.map_eq_some_iff.mp e
      cases t with
      | true => cases dx <;> cases h
      | false =>
        obtain ⟨a, kvs, rfl, e1, r1⟩ := q.dK s
        have key : ∀ k : Key, (getE es (keyD k)).isSome = (valV kvs k).isSome := fun k => by
          obtain ⟨h1, h2⟩ := r1.val k
          cases h3 : getE es (keyD k) with
          | none => rw [h2 h3]; rfl
          | some d => obtain ⟨v, h4, _⟩ := h1 d h3; rw [h4]; rfl
        cases dx with
        | int i =>
          cases h
          obtain rfl := p.int
          refine .inl ⟨a, _, rfl, .inl ⟨kvs, .inl i, e1, rfl, rfl⟩, ?_⟩
          rw [← key]
          exact n.q s (.bl _)
        | str x =>
          cases h
          obtain rfl := p.str
          refine .inl ⟨a, _, rfl, .inl ⟨kvs, .inr x, e1, rfl, rfl⟩, ?_⟩
          rw [← key]
          exact n.q s (.bl _)
        | non =>
          cases h
          obtain rfl := p.non
          exact .inr ⟨a, kvs, rfl, rfl, e1, n.q s (.bl _)⟩
        | _ => cases h
    · cases e
/-- by what y is -/
theorem in_split {f : Bool → Bool} {ma mb : M g.R.S Vr} {σ : St} {H : Hp} {Q : VK} (h : tM g (mOp2 (fun x y => (inB x y).map fun b => .sh (.bl (f b))) ma mb) σ H Q) : tM g (mOp2 (seqIn f) ma mb) σ H Q ∨ tM g (mOp2 (dctIn f) ma mb) σ H Q := by
  obtain ⟨F, s, res, s', I, e, k⟩ := h
  unfold mOp2 at e
  obtain ⟨p, e1, e⟩ := Option.bind_eq_some_iff.mp e
  obtain ⟨q, e2, e⟩ := Option.bind_eq_some_iff.mp e
  obtain ⟨x, e3, e⟩ := Option.bind_eq_some_iff.mp e
  obtain ⟨y, e4, e⟩ := Option.bind_eq_some_iff.mp e
  obtain ⟨z, e5, e⟩ := Option.map_eq_some_iff.mp e
  cases e
  have build : ∀ f' : D → D → Option Vr, f' x y = some res → mOp2 f' ma mb s = some (res, q.2) := fun f' hf => by
    unfold mOp2
    simp only [e1, e2, e3, e4, hf, Option.bind_some, Option.map_some]
  cases y with
  | dct t es => exact .inr ⟨F, s, res, q.2, I, build _ e5, k⟩
  | _ => exact .inl ⟨F, s, res, q.2, I, build _ e5, k⟩
theorem d_in {a b : Expr} {ma mb : M g.R.S Vr} {pos : Pos} {k : Nat} (o : XO g k X) (ha : DE g X a ma) (hb : DE g X b mb) (hm : behindInMarks .In b = false := by with_unfolding_all rfl) : DE g X (.Compare a [.In] [b] pos) (mOp2 inD ma mb) :=
  PE.imp (PE.or (pe_cmpR op_inQ ha hb hm) (pe_cmp (pc_dinN o.hu ha hb) hm)) fun σ H Q h => (in_split (f := id) h).elim (fun h => .inl (tOp2_of (by rw [o.K]; exact p_seqIn) h)) (fun h => .inr (tInD_of (f := id) h))
theorem t_in {a b : Expr} {ma mb : M g.R.S Vr} {pos : Pos} {k : Nat} (o : XO g k X) (ha : DE g X a ma) (hb : DE g X b mb) (hm : behindInMarks .In b = false := by with_unfolding_all rfl) : DT g X (.Compare a [.In] [b] pos) (mOp2 inD ma mb) := by
  refine PT.imp (PT.or (pt_cmpR op_inQ ha hb hm) (pt_cmp (pc_dinN o.hu ha hb) hm)) fun σ H Q h => ?_
  have h := tTest_of (t := tM g (mOp2 inD ma mb)) (fun _ _ _ h => h) h
  exact (in_split (f := id) h).elim (fun h => .inl (tOp2_of (by rw [o.K]; exact p_seqIn) h)) (fun h => .inr (tInD_of (f := id) h))
theorem t_nin {a b : Expr} {ma mb : M g.R.S Vr} {pos : Pos} {k : Nat} (o : XO g k X) (ha : DE g X a ma) (hb : DE g X b mb) (hm : behindInMarks .NotIn b = false := by with_unfolding_all rfl) : DT g X (.Compare a [.NotIn] [b] pos) (mOp2 ninD ma mb) := by
  refine PT.imp (PT.or (pt_cmpR op_ninQ ha hb hm) (pt_cmp (pc_dnotinN o.hu ha hb) hm)) fun σ H Q h => ?_
  have h := tTest_of (t := tM g (mOp2 ninD ma mb)) (fun _ _ _ h => h) h
  exact (in_split (f := (!·)) h).elim (fun h => .inl (tOp2_of (by rw [o.K]; exact p_seqIn) h)) (fun h => .inr (tInD_of (f := (!·)) h))
end
end RW
namespace RW
open PySem L2
/-! ### texts in order -/
def leS (a b : Str) : Bool := !PySem.Spec.ltCps b.cps.toList a.cps.toList
def sortS (xs : List Str) : List Str := xs.mergeSort leS
theorem lt_irrefl : ∀ a : List Nat, PySem.Spec.ltCps a a = false
  | [] => rfl
  | a :: r => by simp [PySem.Spec.ltCps, lt_irrefl r]
theorem lt_trans : ∀ {a b c : List Nat}, PySem.Spec.ltCps a b = true → PySem.Spec.ltCps b c = true → PySem.Spec.ltCps a c = true
  | [], [], _, h, _ => by cases h
  | [], _ :: _, [], _, h => by cases h
  | [], _ :: _, _ :: _, _, _ => rfl
  | _ :: _, [], _, h, _ => by cases h
  | _ :: _, _ :: _, [], _, h => by cases h
  | a :: r, b :: t, c :: u, h1, h2 => by
    simp only [PySem.Spec.ltCps, Bool.or_eq_true, decide_eq_true_eq, Bool.and_eq_true, beq_iff_eq] at h1 h2 ⊢
    rcases h1 with h1 | ⟨h1, h1'⟩ <;> rcases h2 with h2 | ⟨h2, h2'⟩
    · exact .inl (by omega)
    · exact .inl (by omega)
    · exact .inl (by omega)
    · exact .inr ⟨by omega, lt_trans h1' h2'⟩
theorem lt_tri : ∀ {a b : List Nat}, PySem.Spec.ltCps a b = false → PySem.Spec.ltCps b a = false → a = b
  | [], [], _, _ => rfl
  | [], _ :: _, h, _ => by cases h
  | _ :: _, [], _, h => by cases h
  | a :: r, b :: t, h1, h2 => by
    simp only [PySem.Spec.ltCps, Bool.or_eq_false_iff, decide_eq_false_iff_not, Bool.and_eq_false_iff, beq_eq_false_iff_ne] at h1 h2
    have e : a = b := by omega
    subst e
    have := lt_tri (a := r) (b := t) (by simpa using h1.2) (by simpa using h2.2)
    rw [this]
theorem Str.ext {a b : Str} (h : a.cps.toList = b.cps.toList) : a = b := by
  cases a; cases b; congr; exact Array.toList_inj.mp h
theorem leS_total (a b : Str) : (leS a b || leS b a) = true := by
  unfold leS
  cases h1 : PySem.Spec.ltCps b.cps.toList a.cps.toList with
  | false => rfl
  | true =>
    cases h2 : PySem.Spec.ltCps a.cps.toList b.cps.toList with
    | false => rfl
    | true => have := lt_trans h1 h2; rw [lt_irrefl] at this; cases this
theorem leS_trans (a b c : Str) (h1 : leS a b = true) (h2 : leS b c = true) : leS a c = true := by
  unfold leS at *
  simp only [Bool.not_eq_true'] at *
  cases h : PySem.Spec.ltCps c.cps.toList a.cps.toList with
  | false => rfl
  | true =>
    cases h3 : PySem.Spec.ltCps a.cps.toList b.cps.toList with
    | true => have := lt_trans h h3; rw [h2] at this; cases this
    | false =>
      have e := lt_tri h3 h1
      rw [e] at h; rw [h2] at h; cases h
theorem leS_anti {a b : Str} (h1 : leS a b = true) (h2 : leS b a = true) : a = b := by
  unfold leS at *
  simp only [Bool.not_eq_true'] at *
  exact Str.ext (lt_tri h2 h1)
theorem sortS_perm (xs : List Str) : (sortS xs).Perm xs := List.mergeSort_perm _ _
theorem sortS_pw (xs : List Str) : (sortS xs).Pairwise fun a b => leS a b = true := List.pairwise_mergeSort leS_trans leS_total xs
theorem risingS_pw : ∀ {xs : List Str} {p : Str}, PyProof.Rows.risingS p xs = true → (p :: xs).Pairwise fun a b => leS a b = true
  | [], p, _ => List.pairwise_singleton _ _
  | x :: r, p, h => by
    unfold PyProof.Rows.risingS at h
    obtain ⟨h1, h2⟩ := Bool.and_eq_true_iff.mp h
    have ih := risingS_pw h2
    refine List.pairwise_cons.mpr ⟨fun y hy => ?_, ih⟩
    rcases List.mem_cons.mp hy with rfl | hy
    · exact h1
    · exact leS_trans p x y h1 ((List.pairwise_cons.mp ih).1 y hy)
theorem sortS_eq {xs ys : List Str} (hp : ys.Perm xs) (h : PyProof.Rows.sortedS ys = true) : ys = sortS xs := by
  have pw : ys.Pairwise fun a b => leS a b = true := by
    cases ys with
    | nil => exact List.Pairwise.nil
    | cons y r => exact risingS_pw h
  exact List.Perm.eq_of_pairwise (le := fun a b => leS a b = true) (fun a b _ _ h1 h2 => leS_anti h1 h2) pw (sortS_pw xs) (hp.trans (sortS_perm xs).symm)
def strsOf : List D → Option (List Str)
  | [] => some []
  | .str x :: ds => (strsOf ds).map fun xs => x :: xs
  | _ => none
theorem strsOf_eq : ∀ {ds : List D} {xs : List Str}, strsOf ds = some xs → ds = xs.map .str
  | [], _, h => by cases h; rfl
  | d :: ds, xs, h => by
    cases d with
    | str x =>
      obtain ⟨ys, h1, h2⟩ := Option.map_eq_some_iff.mp (show (strsOf ds).map (fun xs => x :: xs) = some xs from h)
      subst h2
      rw [strsOf_eq h1]; rfl
    | _ => cases h
section
variable {g : G} {X : Cx}
theorem rep_strs {F : Hp} : ∀ {vs : List V} {xs : List Str}, RepAll g F vs (xs.map .str) → vs = xs.map .str
  | _, [], h => by cases h; rfl
  | _, x :: xs, h => by
    cases h with
    | cons a b => rw [Pk.str (H := F) (.inl a), rep_strs b]; rfl
theorem all_strs {F : Hp} : ∀ xs : List Str, RepAll g F (xs.map V.str) (xs.map .str)
  | [] => .nil
  | _ :: xs => .cons (.str _) (all_strs xs)
/-! ### split by what the values are -/
theorem split2 {f f1 f2 : D → D → Option Vr} (hf : ∀ x y z, f x y = some z → f1 x y = some z ∨ f2 x y = some z) {ma mb : M g.R.S Vr} {σ : St} {H : Hp} {Q : VK} (h : tM g (mOp2 f ma mb) σ H Q) : tM g (mOp2 f1 ma mb) σ H Q ∨ tM g (mOp2 f2 ma mb) σ H Q := by
  obtain ⟨F, s, res, s', I, e, k⟩ := h
  unfold mOp2 at e
  obtain ⟨p, e1, e⟩ := Option.bind_eq_some_iff.mp e
  obtain ⟨q, e2, e⟩ := Option.bind_eq_some_iff.mp e
  obtain ⟨x, e3, e⟩ := Option.bind_eq_some_iff.mp e
  obtain ⟨y, e4, e⟩ := Option.bind_eq_some_iff.mp e
  obtain ⟨z, e5, e⟩ := Option.map_eq_some_iff.mp e
  cases e
  have build : ∀ f' : D → D → Option Vr, f' x y = some res → mOp2 f' ma mb s = some (res, q.2) := fun f' hf => by
    unfold mOp2
    simp only [e1, e2, e3, e4, hf, Option.bind_some, Option.map_some]
  rcases hf x y res e5 with h | h
  · exact .inl ⟨F, s, res, q.2, I, build _ h, k⟩
  · exact .inr ⟨F, s, res, q.2, I, build _ h, k⟩
/-! ### xs[i], d[k] -/
def idxS : D → D → Option Vr
  | .lst ds, .int i => (atI ds i).map .sh
  | .tup ds, .int i => (atI ds i).map .sh
  | .str x, .int i => if x.length ≤ sizeLine then (atI x.cps.toList i).map fun c => .sh (.str ⟨#[c]⟩) else none
  | _, _ => none
def idxK : D → D → Option Vr
  | .dct false es, k => (kOf k).bind fun key => (getE es (keyD key)).map .sh
  | _, _ => none
def idxD (x y : D) : Option Vr := match x with
  | .dct _ _ => idxK x y
  | _ => idxS x y
theorem atI_rep {F : Hp} {xs : List V} {ds : List D} {i : Int} {d : D} (r : RepAll g F xs ds) (h : atI ds i = some d) : ∃ x, atI xs i = some x ∧ Rep g F x d := by
  unfold atI at h ⊢
  rw [r.length]
  obtain ⟨j, h1, h2⟩ := Option.bind_eq_some_iff.mp h
  obtain ⟨x, h3, h4⟩ := r.get h2
  exact ⟨x, by rw [h1]; exact h3, h4⟩
theorem p_idxS : Op2 g idxS (rIx g.K) := by
  refine ⟨fun x y z e i => ?_, fun F H x y dx dy z Q s p q e n => ?_⟩
  · unfold idxS at e
    split at e
    · obtain ⟨d, _, rfl⟩ := Option.map_eq_some_iff.mp e; exact fun z => nomatch z
    · obtain ⟨d, _, rfl⟩ := Option.map_eq_some_iff.mp e; exact fun z => nomatch z
    · split at e
      · obtain ⟨d, _, rfl⟩ := Option.map_eq_some_iff.mp e; exact fun z => nomatch z
      · cases e
    · cases e
  · unfold idxS at e
    split at e
    · obtain ⟨d, h, rfl⟩ := Option.map_eq_some_iff.mp e
      obtain ⟨a, xs, rfl, e1, r1⟩ := p.lst s
      obtain rfl := q.int
      obtain ⟨v, h1, h2⟩ := atI_rep r1 h
      exact .inl ⟨a, xs, _, v, rfl, rfl, SqL.of e1, h1, n.q s h2⟩
    · obtain ⟨d, h, rfl⟩ := Option.map_eq_some_iff.mp e
      obtain ⟨a, xs, rfl, e1, r1⟩ := p.tup s
      obtain rfl := q.int
      obtain ⟨v, h1, h2⟩ := atI_rep r1 h
      exact .inr (.inl ⟨a, xs, _, v, rfl, rfl, e1, h1, n.q s h2⟩)
    · split at e
      · obtain ⟨c, h, rfl⟩ := Option.map_eq_some_iff.mp e
        obtain rfl := p.str
        obtain rfl := q.int
        exact .inr (.inr ⟨_, _, c, rfl, rfl, by assumption, h, n.q s (.str _)⟩)
      · cases e
    · cases e
theorem p_idxK : Op2 g idxK (fun x y H Q => ∃ a v, x = .ref a ∧ DGet H a y (some v) ∧ Q v H) := by
  refine ⟨fun x y z e i => ?_, fun F H x y dx dy z Q s p q e n => ?_⟩
  · unfold idxK at e
    split at e
    · obtain ⟨k, _, e⟩ := Option.bind_eq_some_iff.mp e
      obtain ⟨d, _, rfl⟩ := Option.map_eq_some_iff.mp e; exact fun z => nomatch z
    · cases e
  · unfold idxK at e
    split at e
    · obtain ⟨k, hk, e⟩ := Option.bind_eq_some_iff.mp e
      obtain ⟨d, h, rfl⟩ := Option.map_eq_some_iff.mp e
      obtain ⟨a, kvs, rfl, e1, r1⟩ := p.dK s
      obtain ⟨v, h1, h2⟩ := (r1.val k).1 d h
      have hy : y = kV k := by
        have := kOf_some hk
        subst this
        cases k with
        | inl i => exact q.int
        | inr x => exact q.str
      exact ⟨a, v, rfl, .inl ⟨kvs, k, e1, hy, h1.symm⟩, n.q s h2⟩
    · cases e
theorem d_idx {a b : Expr} {ma mb : M g.R.S Vr} {pos : Pos} {k : Nat} (o : XO g k X) (ha : DE g X a ma) (hb : DE g X b mb) (hs : PlainIx b := by intro _ _; rfl) (hs2 : NoSl b := by intro _ _; rfl) : DE g X (.Subscript a b pos) (mOp2 idxD ma mb) := by
  refine PE.imp (PE.or (pe_ix ix_seq ha hb hs) (pe_dget o.hu ha hb hs2)) fun σ H Q h => ?_
  rcases split2 (f1 := idxS) (f2 := idxK) (fun x y z e => by
    unfold idxD at e
    split at e
    · exact .inr e
    · exact .inl e) h with h | h
  · exact .inl (tOp2_of (by rw [o.K]; exact p_idxS) h)
  · exact .inr (tOp2_of p_idxK h)
/-! ### xs[i:j] -/
def tMO (g : G) (m : M g.R.S (Option Int)) : TO := fun σ H Q => ∃ F s o s', Sim g F s σ H ∧ m s = some (o, s') ∧ ∀ F' H', Sim g F' s' σ H' → Keep g F s σ H F' s' σ H' → Q o H'
theorem PO.imp {e : Option Expr} {t t' : TO} (h : PO X e t) (w : ∀ σ H Q, t' σ H Q → t σ H Q) : PO X e t' := ⟨fun pins s σ H Q I q => h.run pins s σ H Q I (w _ _ _ q)⟩
def mNoP {R : Type} : M R (Option Int) := fun s => some (none, s)
def mPt {R : Type} (ma : M R Vr) : M R (Option Int) := fun s => (ma s).bind fun p => match p.1 with
  | .sh (.int i) => some (some i, p.2)
  | _ => none
theorem o_none : PO X none (tMO g mNoP) := PO.imp po_none fun σ H Q ⟨F, s, o, s', I, e, k⟩ => by
  cases e
  exact k F H I Keep.refl
theorem o_some {e : Expr} {ma : M g.R.S Vr} (h : DE g X e ma) : PO X (some e) (tMO g (mPt ma)) := PO.imp (po_some h) fun σ H Q ⟨F, s, o, s', I, e, k⟩ => by
  unfold mPt at e
  obtain ⟨⟨r, s1⟩, e1, e⟩ := Option.bind_eq_some_iff.mp e
  cases r with
  | sh d => cases d with
    | int i =>
      cases e
      refine ⟨F, s, _, _, I, e1, fun F' v H' I' K' r => ?_⟩
      obtain rfl := Pk.int (H := H') (.inl r)
      exact ⟨i, rfl, k F' H' I' K'⟩
    | _ => cases e
  | _ => cases e
def cutL {α : Type} (xs : List α) (lo hi : Option Int) : List α := (xs.drop (HT.sIx xs.length 0 lo)).take (HT.sIx xs.length xs.length hi - HT.sIx xs.length 0 lo)
def cutD (d : D) (lo hi : Option Int) : Option Vr := match d with
  | .lst ds => some (.tmp (.lst (cutL ds lo hi)))
  | .tup ds => some (.sh (.tup (cutL ds lo hi)))
  | .str x => if x.length ≤ sizeLine then some (.sh (.str (cutS x lo hi))) else none
  | _ => none
def mSl {R : Type} (ma : M R Vr) (ml mh : M R (Option Int)) : M R Vr := fun s => (ma s).bind fun p => (ml p.2).bind fun q => (mh q.2).bind fun r => (pk (soft p.1) r.2).bind fun x => (cutD x q.1 r.1).map fun z => (z, r.2)
theorem cut_rep {F : Hp} {xs : List V} {ds : List D} (r : RepAll g F xs ds) (lo hi : Option Int) : RepAll g F (cutV xs lo hi) (cutL ds lo hi) := by
  unfold cutV cutL
  rw [r.length]
  exact (r.drop _).take _
theorem d_slice {e : Expr} {lo hi : Option Expr} {ma : M g.R.S Vr} {ml mh : M g.R.S (Option Int)} {p2 pos : Pos} {k : Nat} (o : XO g k X) (he : DE g X e ma) (hl : PO X lo (tMO g ml)) (hu : PO X hi (tMO g mh)) : DE g X (.Subscript e (.Slice lo hi none p2) pos) (mSl ma ml mh) := by
  refine PE.imp (pe_slice (SlR.or sl_list (SlR.or sl_tupA sl_str)) he hl hu) fun σ H Q ⟨F, s, res, s', I, e, k⟩ => ?_
  unfold mSl at e
  obtain ⟨p, e1, e⟩ := Option.bind_eq_some_iff.mp e
  obtain ⟨q, e2, e⟩ := Option.bind_eq_some_iff.mp e
  obtain ⟨r, e3, e⟩ := Option.bind_eq_some_iff.mp e
  obtain ⟨x, e4, e⟩ := Option.bind_eq_some_iff.mp e
  obtain ⟨z, e5, e⟩ := Option.map_eq_some_iff.mp e
  cases e
  refine tM_soft I e1 fun F1 v H1 I1 K1 w1 => ⟨F1, _, q.1, q.2, I1, e2, fun F2 H2 I2 K2 => ⟨F2, _, r.1, r.2, I2, e3, fun F3 H3 I3 K3 => ?_⟩⟩
  have pkv := ((w1.keep K2.grow).keep K3.grow).pk I3 e4
  have K := (K1.trans K2 I2).trans K3 I3
  unfold cutD at e5
  split at e5
  · cases e5
    obtain ⟨a, xs, rfl, h1, r1⟩ := pkv.lst I3.sub
    exact .inl ⟨a, xs, rfl, SqL.of h1, fun p hp => (fin_of I3 K (by intro _ z; cases z) k).newO I3.sub (.lst (cut_rep r1 _ _)) p hp⟩
  · cases e5
    obtain ⟨a, xs, rfl, h1, r1⟩ := pkv.tup I3.sub
    refine .inr (.inl ⟨a, xs, rfl, by rw [o.K]; exact h1, fun ⟨z1, z2⟩ => ?_, fun _ p hp => (fin_of I3 K (by intro _ z; cases z) k).newT I3.sub (cut_rep r1 _ _) p hp⟩)
    rcases pkv with h | ⟨_, _, _, _, h⟩
    · refine (fin_of I3 K (by intro _ z; cases z) k).q I3.sub ?_
      have : ∀ {ds : List D}, xs.length = ds.length → cutL ds q.1 r.1 = ds := fun {ds} hl => by
        unfold cutL
        rw [← hl, z1, z2, hl]
        simp
      rw [this r1.length]
      exact h
    · cases h
  · split at e5
    · cases e5
      obtain rfl := pkv.str
      exact .inr (.inr ⟨_, rfl, by assumption, (fin_of I3 K (by intro _ z; cases z) k).q I3.sub (.str _)⟩)
    · cases e5
  · cases e5
/-! ### built-in functions of one value -/
theorem d_b1 {x : Str} {id : String} {r : List V → Hp → VK → Prop} {f : D → Option Vr} {a : Expr} {ma : M g.R.S Vr} {p pos : Pos} (hc : CallR X (.builtin id) r) (ok : Op1 g f (fun x H Q => r [x] H Q)) (hv : bootBuiltins x = some (.builtin id)) (hg : Gl X x) (hm : X.mg x = none) (ha : DE g X a ma) (hn : x ≠ "__name__" := by decide) (hdb : (x == ("__debug__" : Str)) = false := by decide)
    (he : starEach [a] X.env = (false, eval a X.env) :: starEach [] X.env := by rfl) (hpl : (backTo pos (starEach [] X.env)).any (·.1) = false := by rfl) : DE g X (.Call (.Name x p) [a] [] pos) (mOp1 f ma) :=
  PE.imp (pe_callB hc hg hm hv (pa_cons ha pa_nil he) hn hdb he hpl) fun _ _ _ h => tOp1_of ok h
theorem d_t1 {x : Str} {T : String} {r : List V → Hp → VK → Prop} {f : D → Option Vr} {a : Expr} {ma : M g.R.S Vr} {p pos : Pos} (hc : CallR X (.type T) r) (ok : Op1 g f (fun x H Q => r [x] H Q)) (hv : bootBuiltins x = some (.type T)) (hg : Gl X x) (hm : X.mg x = none) (ha : DE g X a ma) (hn : x ≠ "__name__" := by decide) (hdb : (x == ("__debug__" : Str)) = false := by decide)
    (he : starEach [a] X.env = (false, eval a X.env) :: starEach [] X.env := by rfl) (hpl : (backTo pos (starEach [] X.env)).any (·.1) = false := by rfl) : DE g X (.Call (.Name x p) [a] [] pos) (mOp1 f ma) :=
  PE.imp (pe_callTy hc hg hm hv (pa_cons ha pa_nil he) hn hdb he hpl) fun _ _ _ h => tOp1_of ok h
theorem d_b2 {x : Str} {id : String} {r : List V → Hp → VK → Prop} {f : D → D → Option Vr} {a b : Expr} {ma mb : M g.R.S Vr} {p pos : Pos} (hc : CallR X (.builtin id) r) (ok : Op2 g f (fun x y H Q => r [x, y] H Q)) (hv : bootBuiltins x = some (.builtin id)) (hg : Gl X x) (hm : X.mg x = none) (ha : DE g X a ma) (hb : DE g X b mb) (hn : x ≠ "__name__" := by decide) (hdb : (x == ("__debug__" : Str)) = false := by decide)
    (he : starEach [a, b] X.env = (false, eval a X.env) :: starEach [b] X.env := by rfl) (he2 : starEach [b] X.env = (false, eval b X.env) :: starEach [] X.env := by rfl) (hpl : (backTo pos (starEach [b] X.env)).any (·.1) = false := by rfl) : DE g X (.Call (.Name x p) [a, b] [] pos) (mOp2 f ma mb) :=
  PE.imp (pe_callB hc hg hm hv (pa_cons ha (pa_cons hb pa_nil he2) he) hn hdb he hpl) fun _ _ _ h => tOp2_of ok h
def lenD : D → Option Vr
  | .lst ds => some (.sh (.int ds.length))
  | .tup ds => some (.sh (.int ds.length))
  | .dct false es => some (.sh (.int es.length))
  | .str x => if x.length ≤ sizeLine then some (.sh (.int x.length)) else none
  | .scr ns => some (.sh (.int ns.length))
  | _ => none
theorem call_lenRd : CallR X (.builtin "len") (fun xs H Q => ∃ a kvs, xs = [V.ref a] ∧ Rd H a (.dK kvs) ∧ Q (.int kvs.length) H) := by
  intro pins s σ H xs us Q I r h
  obtain ⟨a, kvs, rfl, ha, q⟩ := h
  obtain ⟨u, rfl, ru⟩ := vals1 r
  cases ru
  exact d_len I ha fun t s' I' => ⟨.int kvs.length, H, I', ⟨t, rfl⟩, q⟩
theorem p_len : Op1 g lenD (fun x H Q => (∃ y n, [x] = [y] ∧ LenV g.K y H n ∧ Q (.int n) H) ∨ ∃ a kvs, [x] = [V.ref a] ∧ Rd H a (.dK kvs) ∧ Q (.int kvs.length) H) := by
  refine ⟨fun x z e i => ?_, fun F H x dx z Q s p e n => ?_⟩
  · unfold lenD at e
    split at e <;> first | cases e; exact fun z => nomatch z | (split at e <;> first | cases e; exact fun z => nomatch z | cases e) | cases e
  · unfold lenD at e
    split at e
    · cases e
      obtain ⟨a, xs, rfl, e1, r1⟩ := p.lst s
      exact .inl ⟨_, xs.length, rfl, .inl ⟨xs, SqL.of e1, rfl⟩, by rw [r1.length]; exact n.q s (.int _)⟩
    · cases e
      obtain ⟨a, xs, rfl, e1, r1⟩ := p.tup s
      exact .inl ⟨_, xs.length, rfl, .inr ⟨xs, e1, rfl⟩, by rw [r1.length]; exact n.q s (.int _)⟩
    · cases e
      obtain ⟨a, kvs, rfl, e1, r1⟩ := p.dK s
      exact .inr ⟨a, kvs, rfl, e1, by rw [r1.length]; exact n.q s (.int _)⟩
    · split at e
      · cases e
        obtain rfl := p.str
        exact .inl ⟨_, _, rfl, ⟨by assumption, rfl⟩, n.q s (.int _)⟩
      · cases e
    · cases e
      obtain ⟨a, rfl, e1⟩ := p.scr s
      exact .inl ⟨_, _, rfl, .inl ⟨_, e1, rfl⟩, by rw [List.length_map]; exact n.q s (.int _)⟩
    · cases e
theorem d_len' {a : Expr} {ma : M g.R.S Vr} {p pos : Pos} {k : Nat} (o : XO g k X) (hg : Gl X "len") (hm : X.mg "len" = none) (ha : DE g X a ma) (he : starEach [a] X.env = (false, eval a X.env) :: starEach [] X.env := by rfl) : DE g X (.Call (.Name "len" p) [a] [] pos) (mOp1 lenD ma) :=
  d_b1 (CallR.or call_len call_lenRd) (by rw [o.K]; exact p_len) PySem.boot_len hg hm ha (by decide) (by decide) he rfl
def absD : D → Option Vr
  | .int i => some (.sh (.int (if i < 0 then -i else i)))
  | _ => none
theorem d_abs {a : Expr} {ma : M g.R.S Vr} {p pos : Pos} (hg : Gl X "abs") (hm : X.mg "abs" = none) (ha : DE g X a ma) (he : starEach [a] X.env = (false, eval a X.env) :: starEach [] X.env := by rfl) : DE g X (.Call (.Name "abs" p) [a] [] pos) (mOp1 absD ma) := by
  refine d_b1 call_abs ⟨fun x z e i => ?_, fun F H x dx z Q s p e n => ?_⟩ (by decide +kernel) hg hm ha (by decide) (by decide) he rfl
  · cases x <;> cases e
    exact fun z => nomatch z
  · cases dx <;> cases e
    obtain rfl := p.int
    exact ⟨_, rfl, n.q s (.int _)⟩
def intD : D → Option Vr
  | .int i => some (.sh (.int i))
  | .bl k => some (.sh (.int (if k then 1 else 0)))
  | _ => none
theorem d_int1 {a : Expr} {ma : M g.R.S Vr} {p pos : Pos} (hg : Gl X "int") (hm : X.mg "int" = none) (ha : DE g X a ma) (he : starEach [a] X.env = (false, eval a X.env) :: starEach [] X.env := by rfl) : DE g X (.Call (.Name "int" p) [a] [] pos) (mOp1 intD ma) := by
  refine d_t1 call_int1 ⟨fun x z e i => ?_, fun F H x dx z Q s p e n => ?_⟩ (by decide +kernel) hg hm ha (by decide) (by decide) he rfl
  · cases x <;> cases e <;> exact fun z => nomatch z
  · cases dx <;> cases e
    · obtain rfl := p.bl
      exact .inr ⟨_, rfl, n.q s (.int _)⟩
    · obtain rfl := p.int
      exact .inl ⟨_, rfl, n.q s (.int _)⟩
abbrev min2 : D → D → Option Vr := o2I fun i j => some (.int (if j < i then j else i))
theorem d_min2 {a b : Expr} {ma mb : M g.R.S Vr} {p pos : Pos} {k : Nat} (o : XO g k X) (hg : Gl X "min") (hm : X.mg "min" = none) (ha : DE g X a ma) (hb : DE g X b mb) (he : starEach [a, b] X.env = (false, eval a X.env) :: starEach [b] X.env := by rfl) (he2 : starEach [b] X.env = (false, eval b X.env) :: starEach [] X.env := by rfl) (hpl : (backTo pos (starEach [b] X.env)).any (·.1) = false := by rfl) : DE g X (.Call (.Name "min" p) [a, b] [] pos) (mOp2 min2 ma mb) :=
  d_b2 (call_min2 o.calm) (op2_int fun i j d H Q F e n => by cases e; exact ⟨i, j, rfl, n _ (.int _)⟩) (by decide +kernel) hg hm ha hb (by decide) (by decide) he he2 hpl
end
end RW
namespace RW
open PySem L2
section
variable {g : G} {X : Cx}
/-! ### list(x), tuple(x), sorted(x), all(x), any(x), dict(x) -/
theorem RepK.keys {F : Hp} : ∀ {kvs : List (Key × V)} {es : List (D × D)}, RepK g F kvs es → RepAll g F (kvs.map fun kv => kV kv.1) (es.map (·.1))
  | _, _, .nil => .nil
  | _, _, .cons _ t => .cons (rep_key _) (RepK.keys t)
def keysStr : List (D × D) → Option (List Str)
  | [] => some []
  | (.str x, _) :: r => (keysStr r).map fun xs => x :: xs
  | _ => none
theorem keysStr_eq {F : Hp} : ∀ {kvs : List (Key × V)} {es : List (D × D)} {xs : List Str}, RepK g F kvs es → keysStr es = some xs → kvs.map (·.1) = xs.map Sum.inr
  | _, _, _, .nil, e => by cases e; rfl
  | _, _, _, .cons (k := k) h t, e => by
    cases k with
    | inl i => cases e
    | inr x =>
      obtain ⟨ys, e1, e2⟩ := Option.map_eq_some_iff.mp (show (keysStr _).map (fun xs => x :: xs) = some _ from e)
      subst e2
      rw [List.map_cons, keysStr_eq t e1]; rfl
def sortD : D → Option Vr
  | .lst ds => (strsOf ds).bind fun xs => if xs.length < 64 then some (.tmp (.lst ((sortS xs).map .str))) else none
  | .dct false es => (keysStr es).bind fun xs => if xs.length < 64 then some (.tmp (.lst ((sortS xs).map .str))) else none
  | _ => none
def boolsOf : List D → Option (List Bool)
  | [] => some []
  | .bl b :: ds => (boolsOf ds).map fun bs => b :: bs
  | _ => none
theorem boolsOf_rep {F : Hp} : ∀ {xs : List V} {ds : List D} {bs : List Bool}, RepAll g F xs ds → boolsOf ds = some bs → xs = bs.map .bl
  | _, _, _, .nil, e => by cases e; rfl
  | _, _, _, .cons (d := d) a b, e => by
    cases d with
    | bl c =>
      obtain ⟨ys, e1, e2⟩ := Option.map_eq_some_iff.mp (show (boolsOf _).map (fun bs => c :: bs) = some _ from e)
      subst e2
      rw [Pk.bl (H := F) (.inl a), boolsOf_rep b e1]; rfl
    | _ => cases e
def allD : D → Option Vr
  | .lst ds => (boolsOf ds).map fun bs => .sh (.bl (bs.all id))
  | _ => none
def anyD : D → Option Vr
  | .lst ds => (boolsOf ds).map fun bs => .sh (.bl (bs.any id))
  | _ => none
theorem d_all {a : Expr} {ma : M g.R.S Vr} {p pos : Pos} {k : Nat} (o : XO g k X) (hg : Gl X "all") (hm : X.mg "all" = none) (ha : DE g X a ma) (he : starEach [a] X.env = (false, eval a X.env) :: starEach [] X.env := by rfl) : DE g X (.Call (.Name "all" p) [a] [] pos) (mOp1 allD ma) := by
  refine d_b1 (cr_all o.calm) ⟨fun x z e i => ?_, fun F H x dx z Q s p e n => ?_⟩ (by decide +kernel) hg hm ha (by decide) (by decide) he rfl
  · unfold allD at e
    split at e
    · obtain ⟨b, _, rfl⟩ := Option.map_eq_some_iff.mp e; exact fun z => nomatch z
    · cases e
  · unfold allD at e
    split at e
    · obtain ⟨bs, h, rfl⟩ := Option.map_eq_some_iff.mp e
      obtain ⟨a, xs, rfl, e1, r1⟩ := p.lst s
      rw [boolsOf_rep r1 h] at e1
      exact ⟨a, bs, rfl, SqL.of e1, n.q s (.bl _)⟩
    · cases e
theorem d_any {a : Expr} {ma : M g.R.S Vr} {p pos : Pos} {k : Nat} (o : XO g k X) (hg : Gl X "any") (hm : X.mg "any" = none) (ha : DE g X a ma) (he : starEach [a] X.env = (false, eval a X.env) :: starEach [] X.env := by rfl) : DE g X (.Call (.Name "any" p) [a] [] pos) (mOp1 anyD ma) := by
  refine d_b1 (cr_any o.calm) ⟨fun x z e i => ?_, fun F H x dx z Q s p e n => ?_⟩ (by decide +kernel) hg hm ha (by decide) (by decide) he rfl
  · unfold anyD at e
    split at e
    · obtain ⟨b, _, rfl⟩ := Option.map_eq_some_iff.mp e; exact fun z => nomatch z
    · cases e
  · unfold anyD at e
    split at e
    · obtain ⟨bs, h, rfl⟩ := Option.map_eq_some_iff.mp e
      obtain ⟨a, xs, rfl, e1, r1⟩ := p.lst s
      rw [boolsOf_rep r1 h] at e1
      exact ⟨a, bs, rfl, SqL.of e1, n.q s (.bl _)⟩
    · cases e
/-! ### sep.join(xs) -/
def joinD : D → D → Option Vr
  | .str a, .lst ds => (strsOf ds).bind fun ys => if (ys.map (·.length)).sum + ys.length * a.length ≤ 16777216 then some (.sh (.str (Txt.join a ys))) else none
  | .str a, .tup ds => (strsOf ds).bind fun ys => if (ys.map (·.length)).sum + ys.length * a.length ≤ 16777216 then some (.sh (.str (Txt.join a ys))) else none
  | _, _ => none
end
end RW
namespace RW
open PySem L2
section
variable {g : G} {X : Cx}
def mJoin {R : Type} (ma mb : M R Vr) : M R Vr := fun s => (ma s).bind fun p => match p.1 with
  | .sh (.str a) => (mb p.2).bind fun q => (pk (soft q.1) q.2).bind fun y => (joinD (.str a) y).map fun z => (z, q.2)
  | _ => none
theorem d_join {o e : Expr} {ma mb : M g.R.S Vr} {apos pos : Pos} {k : Nat} (xo : XO g k X) (ho : DE g X o ma) (he : DE g X e mb) (hs : starEach [e] X.env = [(false, eval e X.env)] := by rfl) (hbase : attributeBase o "join" X.env (eval o X.env) = eval o X.env := by rfl) (hline : (apos.endLine == pos.line) = true := by rfl) :
    DE g X (.Call (.Attribute o "join" apos) [e] [] pos) (mJoin ma mb) := by
  refine PE.imp (pe_join ho he hs hbase hline) fun σ H Q ⟨F, s, res, s', I, e, k⟩ => ?_
  unfold mJoin at e
  obtain ⟨⟨r, s1⟩, e1, e⟩ := Option.bind_eq_some_iff.mp e
  cases r with
  | sh d => cases d with
    | str a =>
      obtain ⟨q, e2, e⟩ := Option.bind_eq_some_iff.mp e
      obtain ⟨y, e3, e⟩ := Option.bind_eq_some_iff.mp e
      obtain ⟨z, e4, e⟩ := Option.map_eq_some_iff.mp e
      cases e
      refine ⟨F, s, _, _, I, e1, fun F1 v H1 I1 K1 r1 => ?_⟩
      obtain rfl := Pk.str (H := H1) (.inl r1)
      refine ⟨⟨a, rfl⟩, tM_soft I1 e2 fun F2 u H2 I2 K2 w2 => ?_⟩
      have pkv := w2.pk I2 e3
      unfold joinD at e4
      split at e4
      · rename_i h; cases h
        obtain ⟨ys, h1, e4⟩ := Option.bind_eq_some_iff.mp e4
        split at e4
        · cases e4
          obtain ⟨p, xs, rfl, h2, r2⟩ := pkv.lst I2.sub
          rw [strsOf_eq h1] at r2
          rw [rep_strs r2] at h2
          exact ⟨a, p, ys, rfl, rfl, .inl (SqL.of h2), by assumption, k F2 _ H2 I2 (K1.trans K2 I2) (.str _)⟩
        · cases e4
      · rename_i h; cases h
        obtain ⟨ys, h1, e4⟩ := Option.bind_eq_some_iff.mp e4
        split at e4
        · cases e4
          obtain ⟨p, xs, rfl, h2, r2⟩ := pkv.tup I2.sub
          rw [strsOf_eq h1] at r2
          rw [rep_strs r2] at h2
          exact ⟨a, p, ys, rfl, rfl, .inr (by rw [xo.K]; exact h2), by assumption, k F2 _ H2 I2 (K1.trans K2 I2) (.str _)⟩
        · cases e4
      · cases e4
    | _ => cases e
  | _ => cases e
/-! ### a slot's own thing is changed -/
theorem Sim.mut {F H : Hp} {s : S g.R.S} {σ : St} {i : Nat} {c : Cell} {p : Addr} {o o' : HO} {d' : D} (I : Sim g F s σ H) (ec : s.e[i]? = some (some c)) (ho : c.own = true) (hv : σ[i]? = some (some (.ref p))) (hp : H p = some o) (r : RepO g F o' d') :
    Sim g F { s with e := s.e.set i (some ⟨d', true⟩) } σ (upd H p o') ∧ Keep g F s σ H F { s with e := s.e.set i (some ⟨d', true⟩) } σ (upd H p o') := by
  have own : Own σ s.e p := ⟨i, c, ec, ho, hv⟩
  obtain ⟨nF, nft, _⟩ := I.own_at own
  have hi : i < s.e.length := (List.getElem?_eq_some_iff.mp ec).1
  have at_i : (s.e.set i (some ⟨d', true⟩))[i]? = some (some ⟨d', true⟩) := List.getElem?_set_self hi
  have at_j : ∀ j, j ≠ i → (s.e.set i (some ⟨d', true⟩))[j]? = s.e[j]? := fun j h => List.getElem?_set_ne (Ne.symm h)
  have back : ∀ {j : Nat} {cj : Cell}, (s.e.set i (some ⟨d', true⟩))[j]? = some (some cj) → cj.own = true → ∃ c', s.e[j]? = some (some c') ∧ c'.own = true := fun {j cj} h1 h2 => by
    by_cases hj : j = i
    · subst hj; exact ⟨c, ec, ho⟩
    · rw [at_j j hj] at h1; exact ⟨cj, h1, h2⟩
  refine ⟨⟨fun a u e => ?_, g.R.stay I.at_ fun a ha => upd_ne (fun (z : a = p) => nft (by rw [← z]; exact ha)), I.foot, by simpa using I.len, fun j cj ej => ?_, fun j k cj ck a hne ej ek oj ok hj => ?_⟩, ⟨fun a u e n _ => ?_, Le.refl _, fun _ _ _ _ h _ => h, fun a z => ?_, fun a u e => ?_⟩⟩
  · rw [upd_ne (fun z => by rw [z, nF] at e; cases e)]; exact I.sub a u e
  · by_cases hj : j = i
    · subst hj
      rw [show ({ s with e := s.e.set j (some ⟨d', true⟩) } : S g.R.S).e = s.e.set j (some ⟨d', true⟩) from rfl, at_i] at ej
      cases ej
      exact ⟨_, hv, .inr ⟨rfl, p, o', rfl, nF, nft, upd_same, r⟩⟩
    · rw [show ({ s with e := s.e.set i (some ⟨d', true⟩) } : S g.R.S).e = s.e.set i (some ⟨d', true⟩) from rfl, at_j j hj] at ej
      obtain ⟨v, h1, h2⟩ := I.cell j cj ej
      refine ⟨v, h1, ?_⟩
      rcases h2 with h2 | ⟨h2, q, x, r1, r2, r3, r4, r5⟩
      · exact .inl h2
      · refine .inr ⟨h2, q, x, r1, r2, r3, ?_, r5⟩
        rw [upd_ne (fun z => I.apart j i cj c p hj ej ec h2 ho (by rw [h1, r1, z]) hv)]; exact r4
  · obtain ⟨c1, e1, o1⟩ := back ej oj
    obtain ⟨c2, e2, o2⟩ := back ek ok
    exact I.apart j k c1 c2 a hne e1 e2 o1 o2 hj
  · rw [upd_ne (fun z => by rw [z] at n; exact n own)]; exact e
  · obtain ⟨j, cj, h1, h2, h3⟩ := z
    obtain ⟨c1, e1, o1⟩ := back h1 h2
    exact .inl ⟨j, c1, e1, o1, h3⟩
  · by_cases z : a = p
    · subst z; exact ⟨_, upd_same⟩
    · rw [upd_ne z]; exact ⟨u, e⟩
/-- a method of a slot's own list or dict -/
def mMut {R : Type} (i : Nat) (ty : D → Bool) (f : D → List D → Option (D × D)) (ma : M R (List Vr)) : M R Vr := fun s => match s.e[i]? with
  | some (some c) => if ty c.d then (ma s).bind fun p => (escAll p.1 p.2).bind fun q => (match q.2.e[i]? with
    | some (some c) => if c.own then (f c.d q.1).map fun z => (.sh z.1, { q.2 with e := q.2.e.set i (some ⟨z.2, true⟩) }) else none
    | _ => none) else none
  | _ => none
def isLst : D → Bool
  | .lst _ => true
  | _ => false
def isDK : D → Bool
  | .dct false _ => true
  | _ => false
structure MutOk (g : G) (n : Nat) (f : D → List D → Option (D × D)) (r : V → List V → Hp → VK → Prop) : Prop where
  ok : ∀ F H p o d vs ds v d' Q, H p = some o → RepO g F o d → RepAll g F vs ds → vs.length = n → f d ds = some (v, d') → (∀ o' x, RepO g F o' d' → Rep g F x v → Q x (upd H p o')) → r (.ref p) vs H Q
theorem tMut_of {i n : Nat} {T : String} {ty : D → Bool} {f : D → List D → Option (D × D)} {r : V → List V → Hp → VK → Prop} {ma : M g.R.S (List Vr)} (ok : MutOk g n f r) (hty : ∀ F H v d, Sub F H → Pk g F H v d → ty d = true → tyV X.K T v H) {σ : St} {H : Hp} {Q : VK} (h : tM g (mMut i ty f ma) σ H Q) : tBM X.K T r (tVar i) (tMV g n ma) σ H Q := by
  obtain ⟨F, s, res, s', I, e, k⟩ := h
  unfold mMut at e
  split at e
  · rename_i c ec
    split at e
    · rename_i ht
      obtain ⟨p, e1, e⟩ := Option.bind_eq_some_iff.mp e
      obtain ⟨q, e2, e⟩ := Option.bind_eq_some_iff.mp e
      obtain ⟨v, ev, cv⟩ := I.cell i c ec
      have pk0 : Pk g F H v c.d := by
        rcases cv with ⟨_, b⟩ | ⟨_, p, o, b1, _, _, b4, b5⟩
        · exact .inl b
        · exact .inr ⟨p, o, b1, b4, b5⟩
      refine ⟨v, ev, hty F H v c.d I.sub pk0 ht, F, s, p.1, p.2, I, e1, fun F1 vs H1 I1 K1 w1 hl => ?_⟩
      obtain ⟨F2, I2, K2, r2⟩ := escAll_ok I1 w1 e2
      split at e
      · rename_i c2 ec2
        split at e
        · rename_i ho
          obtain ⟨z, e3, e⟩ := Option.map_eq_some_iff.mp e
          cases e
          obtain ⟨v2, ev2, cv2⟩ := I2.cell i c2 ec2
          rw [ev] at ev2; cases ev2
          rcases cv2 with ⟨z0, _⟩ | ⟨_, a, o, rfl, b2, b3, b4, b5⟩
          · rw [ho] at z0; cases z0
          · refine ok.ok F2 H1 a o c2.d vs q.1 z.1 z.2 _ b4 b5 r2 hl e3 fun o' x r3 r4 => ?_
            obtain ⟨I3, K3⟩ := I2.mut ec2 ho ev b4 r3
            exact k F2 x _ I3 ((K1.trans K2 I2).trans K3 I3) r4
        · cases e
      · cases e
    · cases e
  · cases e
theorem ty_lst {F H : Hp} {v : V} {d : D} (s : Sub F H) (p : Pk g F H v d) (h : isLst d = true) : tyV X.K "list" v H := by
  cases d <;> cases h
  obtain ⟨a, xs, rfl, e1, _⟩ := p.lst s
  exact .inl ⟨rfl, xs, SqL.of e1⟩
theorem d_mL {i n : Nat} {f : D → List D → Option (D × D)} {r : V → List V → Hp → VK → Prop} {e : Expr} {ma : M g.R.S (List Vr)} (ok : MutOk g n f r) (h : PE X e (tBM X.K "list" r (tVar i) (tMV g n ma))) : DE g X e (mMut i isLst f ma) :=
  PE.imp h fun _ _ _ q => tMut_of ok (fun _ _ _ _ s p t => ty_lst s p t) q
def appL : D → List D → Option (D × D)
  | .lst xs, [d] => if xs.length < sizeLine then some (.non, .lst (xs ++ [d])) else none
  | _, _ => none
theorem m_app : MutOk g 1 appL rAppend := ⟨fun F H p o d vs ds v d' Q hp r rs hl e n => by
  unfold appL at e
  split at e
  · split at e
    · cases e
      cases r with
      | lst r1 => cases rs with
        | cons a b => cases b; exact ⟨p, _, _, rfl, rfl, hp, by rw [r1.length]; assumption, n _ _ (.lst (r1.append a)) .non⟩
    · cases e
  · cases e⟩
theorem RepAll.erase {F : Hp} : ∀ {xs : List V} {ds : List D} (k : Nat), RepAll g F xs ds → RepAll g F (xs.eraseIdx k) (ds.eraseIdx k)
  | _, _, _, .nil => .nil
  | _, _, 0, .cons a b => b
  | _, _, k + 1, .cons a b => .cons a (RepAll.erase k b)
theorem RepAll.dropLast {F : Hp} {xs : List V} {ds : List D} (h : RepAll g F xs ds) : RepAll g F xs.dropLast ds.dropLast := by
  rw [List.dropLast_eq_take, List.dropLast_eq_take, h.length]
  exact h.take _
/-! ### xs[i] = v, d[k] = v -/
def putD : D → D → D → Option D
  | .lst xs, .int k, v => (ixN xs.length k).map fun j => .lst (xs.set j v)
  | .dct false es, k, v => (kOf k).bind fun key => if es.length < sizeLine then some (.dct false (putE es (keyD key) v)) else none
  | _, _, _ => none
def mPut {R : Type} (i : Nat) (mk mv : M R Vr) : MS R := fun s => (mv s).bind fun p => (esc (soft p.1) p.2).bind fun q => match q.2.e[i]? with
  | some (some _) => (mk q.2).bind fun r => (pk (soft r.1) r.2).bind fun kd => (match r.2.e[i]? with
    | some (some c) => if c.own then (putD c.d kd q.1).map fun d' => (.nx, { r.2 with e := r.2.e.set i (some ⟨d', true⟩) }) else none
    | _ => none)
  | _ => none
theorem PSet.or {t t' : TSet} (h : PSet X t) (h' : PSet X t') : PSet X (fun o i v H Q => t o i v H Q ∨ t' o i v H Q) := fun pins s σ H o i v ov iv u Q I ro ri rv q => q.elim (h pins s σ H o i v ov iv u Q I ro ri rv) (h' pins s σ H o i v ov iv u Q I ro ri rv)
theorem RepAll.set {F : Hp} : ∀ {xs : List V} {ds : List D} (j : Nat) {v : V} {d : D}, RepAll g F xs ds → Rep g F v d → RepAll g F (xs.set j v) (ds.set j d)
  | _, _, _, _, _, .nil, _ => .nil
  | _, _, 0, _, _, .cons a b, h => .cons h b
  | _, _, j + 1, _, _, .cons a b, h => .cons a (RepAll.set j b h)
theorem s_put {i : Nat} {x : Str} {k e : Expr} {mk mv : M g.R.S Vr} {npos tpos pos : Pos} {lv : Nat} (o : XO g lv X) (hv : PE X (.Name x npos) (tVar i)) (hk : DE g X k mk) (he : DE g X e mv)
    (h : PG X (.Subscript (.Name x npos) k tpos) (gSub (tVar i) (tM g mk) fun o i v H Q => rSetL o i v H Q ∨ rSetD o i v H Q))
    (hs : swapsWithSole [.Subscript (.Name x npos) k tpos] e pos.line X.env = pure false := by rfl) (hw : swappedStores [.Subscript (.Name x npos) k tpos] e X.env = pure none := by rfl)
    (h1 : (assignEach [.Subscript (.Name x npos) k tpos] X.env).map (·.2) = [assign (.Subscript (.Name x npos) k tpos) X.env] := by rfl) : DS g X (.Assign [.Subscript (.Name x npos) k tpos] e pos) (mPut i mk mv) := by
  refine PS.imp (ps_asg he h hs hw h1) fun E σ H ⟨F, s, fl, s', I, e, ou⟩ => ?_
  unfold mPut at e
  obtain ⟨p, e1, e⟩ := Option.bind_eq_some_iff.mp e
  obtain ⟨q, e2, e⟩ := Option.bind_eq_some_iff.mp e
  split at e
  · rename_i c0 ec0
    obtain ⟨r, e3, e⟩ := Option.bind_eq_some_iff.mp e
    obtain ⟨kd, e4, e⟩ := Option.bind_eq_some_iff.mp e
    split at e
    · rename_i c ec
      split at e
      · rename_i ho
        obtain ⟨d', e5, e⟩ := Option.map_eq_some_iff.mp e
        cases e
        refine tM_esc I e1 e2 fun F1 v H1 I1 K1 r1 => ?_
        obtain ⟨v0, ev0, _⟩ := I1.cell i c0 ec0
        refine ⟨v0, ev0, tM_soft I1 e3 fun F2 y H2 I2 K2 w2 => ?_⟩
        obtain ⟨v1, ev1, cv⟩ := I2.cell i c ec
        rw [ev0] at ev1; cases ev1
        rcases cv with ⟨z0, _⟩ | ⟨_, a, ob, rfl, b2, b3, b4, b5⟩
        · rw [ho] at z0; cases z0
        · have pky := w2.pk I2 e4
          have r2 := r1.mono K2.grow
          have fin : ∀ {o' : HO}, RepO g F2 o' d' → E.nx σ (upd H2 a o') := fun {o'} r3 => by
            obtain ⟨I3, K3⟩ := I2.mut ec ho ev0 b4 r3
            exact ou F2 σ _ I3 ((K1.trans K2 I2).trans K3 I3)
          unfold putD at e5
          split at e5
          · rename_i hd
            obtain ⟨j, e6, e5⟩ := Option.map_eq_some_iff.mp e5
            subst e5
            rw [hd] at b5
            cases b5 with
            | lst b5 =>
              obtain rfl := pky.int
              exact .inl ⟨a, _, _, j, rfl, rfl, b4, by rw [b5.length]; exact e6, fin (.lst (b5.set j r2))⟩
          · rename_i hd
            obtain ⟨key, e6, e5⟩ := Option.bind_eq_some_iff.mp e5
            split at e5
            · cases e5
              rw [hd] at b5
              cases b5 with
              | dK b5 =>
                have hy : y = kV key := by
                  have := kOf_some e6
                  subst this
                  cases key with
                  | inl i => exact pky.int
                  | inr x => exact pky.str
                subst hy
                exact .inr ⟨a, _, rfl, DPut.k b4 (by rw [b5.length]; assumption), fin (.dK (b5.put key r2))⟩
            · cases e5
          · cases e5
      · cases e
    · cases e
  · cases e
/-! ### attributes -/
def fldD (c : Nat) (f : Str) : D → Option Vr
  | .obj c' fs => if c' = c then (fs.lookup f).map .sh else none
  | _ => none
theorem RepF.look {F : Hp} {f : Str} : ∀ {fs : List (Str × V)} {ds : List (Str × D)} {d : D}, RepF g F fs ds → ds.lookup f = some d → ∃ v, fs.lookup f = some v ∧ Rep g F v d
  | _, _, _, .nil, e => by cases e
  | _, _, _, .cons (f := f') h t, e => by
    rw [List.lookup_cons] at e ⊢
    cases hb : f == f' with
    | true => rw [hb] at e; cases e; exact ⟨_, rfl, h⟩
    | false => rw [hb] at e; exact RepF.look t e
theorem d_fld {e : Expr} {f : Str} {ma : M g.R.S Vr} {pos : Pos} (c : Nat) (cl : Cls X.K (g.cls c)) (na : NoAttr X.K (g.cls c) f) (ha : DE g X e ma) (hb : attributeBase e f X.env (eval e X.env) = eval e X.env := by rfl) : DE g X (.Attribute e f pos) (mOp1 (fldD c f) ma) := by
  refine PE.imp (pe_fld ha hb) fun σ H Q h => ?_
  refine tOp1_of (r := fun x H1 Q => ∃ a C dx fs v, x = .ref a ∧ H1 a = some (.ins C dx fs) ∧ Cls X.K C ∧ NoAttr X.K C f ∧ fs.lookup f = some v ∧ Q v H1) ⟨fun x z e i => ?_, fun F H x dx z Q s p e n => ?_⟩ h
  · unfold fldD at e
    split at e
    · split at e
      · obtain ⟨d, _, rfl⟩ := Option.map_eq_some_iff.mp e; exact fun z => nomatch z
      · cases e
    · cases e
  · unfold fldD at e
    split at e
    · split at e
      · rename_i hc
        subst hc
        obtain ⟨d, h1, rfl⟩ := Option.map_eq_some_iff.mp e
        obtain ⟨a, dx, fs, rfl, h2, h3⟩ := p.obj s
        obtain ⟨v, h4, h5⟩ := h3.look h1
        exact ⟨a, _, dx, fs, v, rfl, h2, cl, na, h4, n.q s h5⟩
      · cases e
    · cases e
def putFD (f : Str) (v : D) : List (Str × D) → List (Str × D)
  | [] => [(f, v)]
  | (n, u) :: r => if n = f then (n, v) :: r else (n, u) :: putFD f v r
theorem RepF.put {F : Hp} {f : Str} {v : V} {d : D} (hv : Rep g F v d) : ∀ {fs : List (Str × V)} {ds : List (Str × D)}, RepF g F fs ds → RepF g F (putF f v fs) (putFD f d ds)
  | _, _, .nil => .cons hv .nil
  | _, _, .cons (f := n) h t => by
    unfold putF putFD
    by_cases e : n = f
    · rw [if_pos e, if_pos e]; exact .cons hv t
    · rw [if_neg e, if_neg e]; exact .cons h (RepF.put hv t)
theorem RepF.length {F : Hp} : ∀ {fs : List (Str × V)} {ds : List (Str × D)}, RepF g F fs ds → fs.length = ds.length
  | _, _, .nil => rfl
  | _, _, .cons _ t => by simp [RepF.length t]
/-- self.f = e, self being a new object -/
def mFld {R : Type} (i c : Nat) (f : Str) (mv : M R Vr) : MS R := fun s => (mv s).bind fun p => (esc (soft p.1) p.2).bind fun q => match q.2.e[i]? with
  | some (some ce) => if ce.own then (match ce.d with
    | .obj c' fs => if c' = c ∧ fs.length < 1000 then some (.nx, { q.2 with e := q.2.e.set i (some ⟨.obj c (putFD f q.1 fs), true⟩) }) else none
    | _ => none) else none
  | _ => none
theorem tFld_of {i c : Nat} {f : Str} {mv : M g.R.S Vr} {E : Ends} {σ : St} {H : Hp} (cl : Cls X.K (g.cls c)) (na : NoAttr X.K (g.cls c) f) (h : tS g (mFld i c f mv) E σ H) : sFld X.K (tVar i) (tM g mv) f E σ H := by
  obtain ⟨F, s, fl, s', I, e, ou⟩ := h
  unfold mFld at e
  obtain ⟨p, e1, e⟩ := Option.bind_eq_some_iff.mp e
  obtain ⟨q, e2, e⟩ := Option.bind_eq_some_iff.mp e
  split at e
  · rename_i ce ec
    split at e
    · rename_i ho
      split at e
      · rename_i c' fs hd
        split at e
        · rename_i hc
          cases e
          obtain ⟨rfl, hlen⟩ := hc
          refine tM_esc I e1 e2 fun F1 v H1 I1 K1 r1 => ?_
          obtain ⟨v0, ev0, cv⟩ := I1.cell i ce ec
          rcases cv with ⟨z0, _⟩ | ⟨_, a, ob, rfl, b2, b3, b4, b5⟩
          · rw [ho] at z0; cases z0
          · rw [hd] at b5
            cases b5 with
            | ins b5 =>
              obtain ⟨I3, K3⟩ := I1.mut ec ho ev0 b4 (RepO.ins (dx := _) (b5.put (f := f) r1))
              exact ⟨_, ev0, a, _, _, _, rfl, b4, cl, na, by rw [b5.length]; exact hlen, ou F1 σ _ I3 (K1.trans K3 I3)⟩
        · cases e
      · cases e
    · cases e
  · cases e
end
end RW
namespace RW
open PySem L2
/-! ### defs: from a body to a promise -/
def ent (nl : Nat) (ds : List D) : List (Option Cell) := ds.map (fun d => some ⟨d, false⟩) ++ List.replicate (nl - ds.length) none
def fnR {R : Type} (p : Fl × S R) : Option (Vr × R) := match p.1 with
  | .rt (.sh d) => some (.sh d, p.2.r)
  | .rt (.tmp d) => some (.tmp d, p.2.r)
  | .nx => some (.sh .non, p.2.r)
  | _ => none
def fnM {R : Type} (nl : Nat) (ms : MS R) : Fm R := fun ds r => (ms ⟨ent nl ds, r⟩).bind fnR
section
variable {g : G} {F H : Hp}
theorem ent_get {nl : Nat} {ds : List D} {i : Nat} {c : Cell} (e : (ent nl ds)[i]? = some (some c)) : c.own = false ∧ ds[i]? = some c.d := by
  unfold ent at e
  by_cases h : i < ds.length
  · rw [List.getElem?_append_left (by simpa using h), List.getElem?_map] at e
    cases q : ds[i]? with
    | none => rw [q] at e; cases e
    | some d => rw [q] at e; cases e; exact ⟨rfl, rfl⟩
  · rw [List.getElem?_append_right (by simpa using h), List.getElem?_replicate] at e
    split at e <;> cases e
theorem ent_own {nl : Nat} {ds : List D} {σ : St} {a : Addr} (h : Own σ (ent nl ds) a) : False := by
  obtain ⟨i, c, e1, e2, _⟩ := h
  rw [(ent_get e1).1] at e2; cases e2
theorem sim_ent {N : List Str} {vs : List V} {ds : List D} {r : g.R.S} (sub : Sub F H) (at_ : g.R.At r H) (ft : ∀ a, g.R.foot a → F a = none) (rep : RepAll g F vs ds) : Sim g F ⟨ent N.length ds, r⟩ (start N vs) H := by
  have hl := rep.length
  refine ⟨sub, at_, ft, ?_, fun i c e => ?_, fun i j ci cj a _ e1 _ o1 _ _ => ?_⟩
  · show (ent N.length ds).length = (start N vs).length
    unfold ent L2.start
    simp [hl]
  · obtain ⟨h1, h2⟩ := ent_get e
    obtain ⟨v, e3, rv⟩ := rep.get h2
    refine ⟨v, ?_, .inl ⟨h1, rv⟩⟩
    have hi : i < vs.length := (List.getElem?_eq_some_iff.mp e3).1
    unfold L2.start
    rw [List.getElem?_append_left (by simpa using hi), List.getElem?_map, e3]
    rfl
  · rw [(ent_get e1).1] at o1; cases o1
theorem left_of {F' H' : Hp} {nl : Nat} {ds : List D} {r : g.R.S} {σ σ' : St} {s' : S g.R.S} (I : Sim g F' s' σ' H') (k : Keep g F ⟨ent nl ds, r⟩ σ H F' s' σ' H') : Left g F H F' H' s'.r :=
  ⟨I.sub, I.at_, I.foot, k.grow, fun a o h nf => k.heap a o h ent_own nf, fun a o h nt q => k.nof a o h nt q ent_own, k.there⟩
theorem body_ok {N : List Str} {vs : List V} {ms : MS g.R.S} {Q : VK} {n : Nat} {E : XK} (h : spM g n (fnM N.length ms) vs H Q E) : tS g ms { nx := fun _ H' => Q .non H', rt := Q } (start N vs) H := by
  obtain ⟨F, r, ds, res, r', sub, at_, ft, rep, hl, e, k⟩ := h
  obtain ⟨⟨fl, s'⟩, e1, e2⟩ := Option.bind_eq_some_iff.mp e
  refine ⟨F, ⟨ent N.length ds, r⟩, fl, s', sim_ent sub at_ ft rep, e1, ?_⟩
  cases fl with
  | nx =>
    cases e2
    exact fun F' σ' H' I' K' => k F' .non H' (left_of I' K') .non
  | bk => cases e2
  | ct => cases e2
  | rt v =>
    cases v with
    | sl i => cases e2
    | sh d =>
      cases e2
      exact fun F' σ' v H' I' K' x => k F' v H' (left_of I' K') x
    | tmp d =>
      cases e2
      refine fun F' σ' v H' I' K' x => k F' v H' (left_of I' K') ?_
      obtain ⟨p, o, rfl, h0, h1⟩ := x
      exact ⟨p, o, rfl, h0.resolve_left ent_own, h1⟩
theorem sp_len {vs : List V} {mf : Fm g.R.S} {Q : VK} {n : Nat} {E : XK} (h : spM g n mf vs H Q E) : vs.length = n := by
  obtain ⟨F, r, ds, res, r', sub, at_, ft, rep, hl, _⟩ := h
  rw [rep.length, hl]
end
section
variable {g : G} {P : Program} {w : World} {mg : Str → Option Value} {base : Heap} {x qual : Str} {params : Arguments} {body : List Stmt} {scope : Scope} {dvs : List V} {kws : List (Str × V)} {f : Addr} {fd : FuncData}
/-- a def keeps its promise, by its body -/
theorem fn_ok {N ps : List Str} {k : Nat} {ms : MS g.R.S} (sy : ∃ u, base.get? sysModules = some u) (F : FunD g.K x qual params body scope dvs kws f fd) (S : FnScope N ps scope)
    (hb : ∀ (cdv : Value) (A : Around) (outer : List Env) (s : Shared) (H : Hp), XO g k (cxOf CX0 P w g.K mg base N qual scope f cdv A outer s H E0).nox → DB g (cxOf CX0 P w g.K mg base N qual scope f cdv A outer s H E0).nox body ms) :
    FnG P w g.K mg base (k + 1) f fd ps (spM g ps.length (fnM N.length ms)) :=
  FunD.okG F S (fun _ _ _ _ h => sp_len h) fun cdv A outer s H _ _ hr gd hsp => ⟨tS g ms, (hb cdv A outer s H ⟨rfl, hr, rfl, S.nd, deeper_guards gd, sy⟩).nox, body_ok hsp⟩
end
end RW
namespace RW
open PySem L2
section
variable {g : G} {X : Cx}
/-! ### calls: what follows the arguments -/
def mRest {R : Type} (mf : Fm R) (rs : List Vr) : M R Vr := fun s => (escAll rs s).bind fun z => (mf z.1 z.2.r).bind fun q =>
  match q.1 with
  | .sl _ => none
  | x => some (x, if isAtom x then { s with r := q.2 } else { z.2 with r := q.2 })
theorem call_core {n : Nat} {mf : Fm g.R.S} {rs : List Vr} {σ : St} {F H F1 H1 : Hp} {s s1 s' : S g.R.S} {res : Vr} {vs : List V} {Q : VK} {E : XK} (K1 : Keep g F s σ H F1 s1 σ H1) (I1 : Sim g F1 s1 σ H1) (w1 : WAll g F1 σ rs vs) (hl : vs.length = n) (e : mRest mf rs s1 = some (res, s'))
    (k : ∀ F' v H', Sim g F' s' σ H' → Keep g F s σ H F' s' σ H' → VOk g F' s' σ H H' res v → Q v H') : spM g n mf vs H1 Q E := by
  unfold mRest at e
  obtain ⟨z, e2, e⟩ := Option.bind_eq_some_iff.mp e
  obtain ⟨q, e3, e⟩ := Option.bind_eq_some_iff.mp e
  obtain ⟨F2, I2, K2, r2⟩ := escAll_ok I1 w1 e2
  refine ⟨F2, z.2.r, z.1, q.1, q.2, I2.sub, I2.at_, I2.foot, r2, by rw [← r2.length, hl], e3, fun F' v H' l r => ?_⟩
  have hres : q.1 = res ∧ s' = (if isAtom res then { s1 with r := q.2 } else { z.2 with r := q.2 }) := by
    revert e
    cases q.1 with
    | sl i => intro e; cases e
    | sh d => intro e; cases e; exact ⟨rfl, rfl⟩
    | tmp d => intro e; cases e; exact ⟨rfl, rfl⟩
  obtain ⟨hq, hs⟩ := hres
  rw [hq] at r
  cases ha : isAtom res with
  | true =>
    rw [ha, if_pos rfl] at hs
    subst hs
    obtain ⟨I3, K3⟩ := I1.left0 l
    refine k F1 v H' I3 (K1.trans K3 I3) ?_
    cases res with
    | sh d => exact atom_any ha r
    | tmp d => cases ha
    | sl i => cases ha
  | false =>
    rw [ha, if_neg Bool.false_ne_true] at hs
    subst hs
    obtain ⟨I3, K3⟩ := I2.left l
    refine k F' v H' I3 ((K1.trans K2 I2).trans K3 I3) ?_
    cases res with
    | sh d => exact r
    | tmp d =>
      obtain ⟨a, o, rfl, h0, h1, h2, h3, h4⟩ := r
      refine ⟨a, o, rfl, ?_, h1, h2, fun y => ?_, h3, h4⟩
      · cases u : H a with
        | none => rfl
        | some w => obtain ⟨o', e'⟩ := K1.there a w u; rw [h0] at e'; cases e'
      · obtain ⟨o', e', _⟩ := (I2.own_at (s := z.2) y).2.2
        rw [h0] at e'; cases e'
    | sl i => exact r.elim
/-! ### defs by name -/
abbrev FnP (K : PySem.W.Frag) (x qual : Str) (st : Stmt) (f : Addr) (fd : FuncData) : Prop := FunD K x qual (defArgs st) (defBody st) (defScope st) [] [] f fd
structure Fu (g : G) (P : Program) (w : World) (mg : Str → Option Value) (base : Heap) (k : Nat) (x qual : Str) (st : Stmt) (ps : List Str) (mf : Fm g.R.S) (f : Addr) : Prop where
  ex : ∃ fd, FnP g.K x qual st f fd ∧ FnG P w g.K mg base k f fd ps (spM g ps.length mf) ∧ Binds g.K fd ps []
theorem Fu.mono {P : Program} {w : World} {mg : Str → Option Value} {base : Heap} {j k : Nat} {x qual : Str} {st : Stmt} {ps : List Str} {mf : Fm g.R.S} {f : Addr} (h : Fu g P w mg base j x qual st ps mf f) (hk : j ≤ k) : Fu g P w mg base k x qual st ps mf f := by
  obtain ⟨fd, h1, h2, h3⟩ := h
  exact ⟨fd, h1, h2.mono hk, h3⟩
theorem fu_of {P : Program} {w : World} {mg : Str → Option Value} {base : Heap} {k : Nat} {x qual : Str} {st : Stmt} {N ps : List Str} {ms : MS g.R.S} {f : Addr} (sy : ∃ u, base.get? sysModules = some u) (F : ∃ fd, FnP g.K x qual st f fd) (S : FnScope N ps (defScope st))
    (bi : ∀ (kV doc pm : Value) (an : Option Addr) (cdv ct : Value) (us : List Value), us.length = ps.length → bindArgs (PySem.W.fnOf x qual (defArgs st) (defBody st) (defScope st) .none kV doc pm an cdv ct) ⟨us, []⟩ = pure (ps.zip us))
    (hb : ∀ (cdv : Value) (A : Around) (outer : List Env) (s : Shared) (H : Hp), XO g k (cxOf CX0 P w g.K mg base N qual (defScope st) f cdv A outer s H E0).nox → DB g (cxOf CX0 P w g.K mg base N qual (defScope st) f cdv A outer s H E0).nox (defBody st) ms) :
    Fu g P w mg base (k + 1) x qual st ps (fnM N.length ms) f := by
  obtain ⟨fd, F⟩ := F
  exact ⟨fd, F, fn_ok sy F S hb, F.bindsN bi⟩
theorem d_callF {k j : Nat} {f : Addr} {ps : List Str} {n : Nat} {mf : Fm g.R.S} {x : Str} {st : Stmt} {p pos : Pos} {e : Expr} {es : List Expr} {ma : M g.R.S (List Vr)} (F : Fu g X.prog X.w X.mg X.base j x x st ps mf f) (o : XO g k X) (hm : X.mg x = some (.ref f))
    (ha : DA g X n (e :: es) ma) (hg : Gl X x := by rfl) (hj : j ≤ k := by decide) (hn : ps.length = n := by rfl) (hdb : (x == ("__debug__" : Str)) = false := by decide) (he : starEach (e :: es) X.env = (false, eval e X.env) :: starEach es X.env := by rfl) (hpl : (backTo pos (starEach es X.env)).any (·.1) = false := by rfl) :
    DE g X (.Call (.Name x p) (e :: es) [] pos) (mCall mf ma) := by
  obtain ⟨fd, h1, h2, h3⟩ := F
  subst hn
  have K := o.K
  rw [← K] at h1 h2 h3
  exact d_call (h2.mono hj) o.rm o.gd hg hm h1.kp h3 ha hdb he hpl
/-! ### by keywords -/
def pickL {α : Type} (is : List Nat) (xs : List α) : List α := is.filterMap fun i => xs[i]?
theorem WAll.get {F : Hp} {σ : St} : ∀ {rs : List Vr} {vs : List V} (i : Nat), WAll g F σ rs vs → (∃ r v, rs[i]? = some r ∧ vs[i]? = some v ∧ WOk g F σ r v) ∨ (rs[i]? = none ∧ vs[i]? = none)
  | [], [], i, _ => .inr ⟨by simp, by simp⟩
  | r :: rs, v :: vs, i, h => by
    cases i with
    | zero => exact .inl ⟨r, v, rfl, rfl, h.1⟩
    | succ i => simpa using WAll.get i h.2
  | [], _ :: _, _, h => h.elim
  | _ :: _, [], _, h => h.elim
theorem PK.imp {ks : List Keyword} {t t' : TA} (h : PK X ks t) (w : ∀ σ H Q, t' σ H Q → t σ H Q) : PK X ks t' := ⟨fun pos pins s σ H Q I q => h.run pos pins s σ H Q I (w _ _ _ q)⟩
def mCallK {R : Type} (is : List Nat) (mf : Fm R) (ma : M R (List Vr)) : M R Vr := fun s => (ma s).bind fun p => mRest mf (pickL is p.1) p.2
end
end RW
namespace RW
open PySem L2
section
variable {g : G} {X : Cx}
/-! ### methods -/
def mMeth {R : Type} (c : Nat) (m : Str) (mf : Fm R) (ma : M R Vr) (mr : M R (List Vr)) : M R Vr := fun s => (ma s).bind fun p => match pk (soft p.1) p.2 with
  | some (.obj c' fs) => if c' = c ∧ (fs.lookup m).isNone then (mr p.2).bind fun q => mRest mf (soft p.1 :: q.1) q.2 else none
  | _ => none
theorem RepF.nolook {F : Hp} {f : Str} : ∀ {fs : List (Str × V)} {ds : List (Str × D)}, RepF g F fs ds → ds.lookup f = none → fs.lookup f = none
  | _, _, .nil, _ => rfl
  | _, _, .cons (f := f') h t, e => by
    rw [List.lookup_cons] at e ⊢
    cases hb : f == f' with
    | true => rw [hb] at e; cases e
    | false => rw [hb] at e; exact RepF.nolook t e
theorem tMeth_of {c n : Nat} {m : Str} {mf : Fm g.R.S} {ma : M g.R.S Vr} {mr : M g.R.S (List Vr)} {σ : St} {H : Hp} {Q : VK} (h : tM g (mMeth c m mf ma mr) σ H Q) : tMeth (g.cls c) m (spM g (n + 1) mf) [] E0 (tM g ma) (tMV g n mr) σ H Q := by
  obtain ⟨F, s, res, s', I, e, k⟩ := h
  unfold mMeth at e
  obtain ⟨p, e1, e0⟩ := Option.bind_eq_some_iff.mp e
  split at e0
  · rename_i c' fs hd
    split at e0
    · rename_i hc
      obtain ⟨rfl, hn⟩ := hc
      obtain ⟨q, e2, e3⟩ := Option.bind_eq_some_iff.mp e0
      refine tM_soft I e1 fun F1 v H1 I1 K1 w1 => ?_
      obtain ⟨a, dx, fv, rfl, h2, h3⟩ := (w1.pk I1 hd).obj I1.sub
      refine ⟨a, dx, fv, rfl, h2, h3.nolook (Option.isNone_iff_eq_none.mp hn), ?_⟩
      refine ⟨F1, p.2, q.1, q.2, I1, e2, fun F2 vs H2 I2 K2 w2 hl => ?_⟩
      show spM g (n + 1) mf (.ref a :: (vs ++ [])) H2 Q E0
      rw [List.append_nil]
      exact call_core (K1.trans K2 I2) I2 (rs := soft p.1 :: q.1) ⟨w1.keep K2.grow, w2⟩ (by simp [hl]) e3 k
    · cases e0
  · cases e0
theorem d_meth {k j : Nat} {f : Addr} {ps : List Str} {n : Nat} {mf : Fm g.R.S} {c : Nat} {m qual nm : Str} {st : Stmt} {apos pos : Pos} {o e : Expr} {es : List Expr} {ma : M g.R.S Vr} {mr : M g.R.S (List Vr)} {pl : Sem Bool} (F : Fu g X.prog X.w X.mg X.base j nm qual st ps mf f) (xo : XO g k X) (cl : Cls X.K (g.cls c)) (hm : Meth X.K (g.cls c) m f)
    (ho : DE g X o ma) (ha : DA g X n (e :: es) mr) (hj : j ≤ k := by decide) (hn : ps.length = n + 1 := by rfl) (hst : starEach (e :: es) X.env = (false, eval e X.env) :: starEach es X.env := by rfl) (hpl : (backTo pos (starEach es X.env)).any (·.1) = false := by rfl)
    (ht : eval (.Call (.Attribute o m apos) (e :: es) [] pos) X.env = (eval o X.env >>= fun ov => standAt apos.atName >>= fun _ => holding [ov] (getMethod ov m pl) >>= fun x => callWith pos x.1 x.2 (backTo pos (starEach (e :: es) X.env)) (backToKw pos (keywordEach [] X.env))) := by rfl) :
    DE g X (.Call (.Attribute o m apos) (e :: es) [] pos) (mMeth c m mf ma mr) := by
  obtain ⟨fd, h1, h2, h3⟩ := F
  have K := xo.K
  rw [← K] at h1 h2 h3
  rw [hn] at h2
  exact PE.imp (pg_meth ho cl hm (h2.mono hj) xo.rm xo.gd h3 ha hst hpl ht) fun σ H Q h => tMeth_of h
/-! ### properties -/
def mProp {R : Type} (c : Nat) (mf : Fm R) (ma : M R Vr) : M R Vr := fun s => (ma s).bind fun p => match pk (soft p.1) p.2 with
  | some (.obj c' _) => if c' = c then mRest mf [soft p.1] p.2 else none
  | _ => none
theorem d_prop {k j : Nat} {f pr : Addr} {ps : List Str} {mf : Fm g.R.S} {c : Nat} {at_ qual nm : Str} {st : Stmt} {pos : Pos} {e : Expr} {ma : M g.R.S Vr} (F : Fu g X.prog X.w X.mg X.base j nm qual st ps mf f) (xo : XO g k X) (cl : Cls X.K (g.cls c)) (hp : PropOf X.K (g.cls c) at_ pr f)
    (he : DE g X e ma) (hj : j + 1 ≤ k := by decide) (hn : ps.length = 0 + 1 := by rfl) (hb : attributeBase e at_ X.env (eval e X.env) = eval e X.env := by rfl) : DE g X (.Attribute e at_ pos) (mProp c mf ma) := by
  obtain ⟨fd, h1, h2, h3⟩ := F
  have K := xo.K
  rw [← K] at h1 h2 h3
  rw [hn] at h2
  refine PE.imp (pg_prop he cl hp h2 (xo.rm.mono hj) xo.gd h3 hb) fun σ H Q ⟨F, s, res, s', I, e, k⟩ => ?_
  unfold mProp at e
  obtain ⟨p, e1, e0⟩ := Option.bind_eq_some_iff.mp e
  split at e0
  · rename_i c' fs hd
    split at e0
    · rename_i hc
      subst hc
      refine tM_soft I e1 fun F1 v H1 I1 K1 w1 => ?_
      obtain ⟨a, dx, fv, rfl, h2, h3⟩ := (w1.pk I1 hd).obj I1.sub
      exact ⟨a, dx, fv, rfl, h2, call_core K1 I1 (rs := [soft p.1]) ⟨w1, trivial⟩ rfl e0 k⟩
    · cases e0
  · cases e0
/-! ### the body of __init__: self stays the new object -/
def tSx (g : G) (x : Addr) (m : MS g.R.S) : TS := fun E σ H => ∃ F s s', Sim g F s σ H ∧ σ[0]? = some (some (.ref x)) ∧ m s = some (.nx, s') ∧ ∀ F' σ' H', Sim g F' s' σ' H' → Keep g F s σ H F' s' σ' H' → σ'[0]? = some (some (.ref x)) → E.nx σ' H'
def DSx (g : G) (X : Cx) (st : Stmt) (m : MS g.R.S) : Prop := ∀ x, PS X st (tSx g x m)
def DBx (g : G) (X : Cx) (sts : List Stmt) (m : MS g.R.S) : Prop := ∀ x, PSs X sts (tSx g x m)
def grd (x : Addr) (E : Ends) : Ends := { E with nx := fun σ' H' => σ'[0]? = some (some (.ref x)) → E.nx σ' H' }
theorem tSx_grd {x : Addr} {m : MS g.R.S} {E : Ends} {σ : St} {H : Hp} (h : tSx g x m E σ H) : σ[0]? = some (some (.ref x)) ∧ tS g m (grd x E) σ H := by
  obtain ⟨F, s, s', I, h0, e, k⟩ := h
  exact ⟨h0, F, s, .nx, s', I, e, k⟩
theorem tM_mono {m : M g.R.S Vr} {σ : St} {H : Hp} {Q Q' : VK} (h : tM g m σ H Q) (w : ∀ v H', Q v H' → Q' v H') : tM g m σ H Q' := by
  obtain ⟨F, s, r, s', I, e, k⟩ := h
  exact ⟨F, s, r, s', I, e, fun F' v H' a b c => w _ _ (k F' v H' a b c)⟩
theorem bx_nil : DBx g X [] mNx := fun x => PSs.imp pss_nil fun E σ H ⟨F, s, s', I, h0, e, k⟩ => by
  cases e
  exact k F σ H I Keep.refl h0
theorem bx_cons {st : Stmt} {rest : List Stmt} {m n : MS g.R.S} (h1 : DSx g X st m) (h2 : DBx g X rest n) : DBx g X (st :: rest) (mSeq m n) := fun x => by
  refine PSs.imp (pss_cons (h1 x) (h2 x)) fun E σ H ⟨F, s, s', I, h0, e, k⟩ => ?_
  unfold mSeq at e
  obtain ⟨⟨f, s1⟩, e1, e⟩ := Option.bind_eq_some_iff.mp e
  cases f with
  | nx => exact ⟨F, s, s1, I, h0, e1, fun F' σ' H' I' K' h0' => ⟨F', s1, s', I', h0', e, fun F2 σ2 H2 I2 K2 => k F2 σ2 H2 I2 (K'.trans K2 I2)⟩⟩
  | bk => cases e
  | ct => cases e
  | rt r => cases e
theorem sx_no {st : Stmt} : DSx g X st mNo := fun x => PS.imp ps_never fun E σ H ⟨F, s, s', I, h0, e, k⟩ => by cases e
theorem sx_if {c : Expr} {a b : List Stmt} {mc : M g.R.S Vr} {m n : MS g.R.S} {pos : Pos} (hc : DT g X c mc) (ha : DBx g X a m) (hb : DBx g X b n) : DSx g X (.If c a b pos) (mIte mc m n) := fun x => by
  refine PS.imp (ps_if hc (ha x) (hb x)) fun E σ H ⟨F, s, s', I, h0, e, k⟩ => ?_
  obtain ⟨c, s1, e1, e2⟩ := mIte_inv e
  refine ⟨F, s, c, s1, I, e1, fun F1 H1 I1 K1 => ?_⟩
  cases c with
  | true => exact ⟨F1, s1, s', I1, h0, e2, fun F' σ' H' I' K' => k F' σ' H' I' (K1.trans K' I')⟩
  | false => exact ⟨F1, s1, s', I1, h0, e2, fun F' σ' H' I' K' => k F' σ' H' I' (K1.trans K' I')⟩
theorem sx_set {i : Nat} {x : Str} {e : Expr} {ma : M g.R.S Vr} {pos' pos : Pos} (hN : X.N.Nodup) (he : DE g X e ma) (hi : X.N[i]? = some x := by rfl) (h0 : i ≠ 0 := by decide) (hx : Loc X.env.scope x := by first | exact Or.inl rfl | exact Or.inr rfl) (hs : swapsWith e (some (.Name x pos')) pos.line X.env = pure false := by rfl)
    (hf : X.fn x = true ∨ X.env.scope.names.lookup x = some .local := by first | exact .inl rfl | exact .inr rfl | assumption) : DSx g X (.Assign [.Name x pos'] e pos) (mSet i ma) := fun y => by
  refine PS.imp (ps_set hN hi hx he hs hf) fun E σ H h => ?_
  obtain ⟨hy, h⟩ := tSx_grd h
  exact tM_mono (tSet_of h) fun v H' q => q (by rw [List.getElem?_set_ne h0]; exact hy)
theorem sx_fld {c : Nat} {x f : Str} {e : Expr} {mv : M g.R.S Vr} {npos pos' pos : Pos} (cl : Cls X.K (g.cls c)) (na : NoAttr X.K (g.cls c) f) (h : PS X (.Assign [.Attribute (.Name x npos) f pos'] e pos) (sFld X.K (tVar 0) (tM g mv) f)) : DSx g X (.Assign [.Attribute (.Name x npos) f pos'] e pos) (mFld 0 c f mv) := fun y => by
  refine PS.imp h fun E σ H hx => ?_
  obtain ⟨hy, hx⟩ := tSx_grd hx
  have q := tFld_of cl na hx
  exact tM_mono q fun v H' ⟨z, ez, a, C, dx, fs, e1, e2, e3, e4, e5, k⟩ => ⟨z, ez, a, C, dx, fs, e1, e2, e3, e4, e5, k hy⟩
end
end RW
namespace RW
open PySem L2
/-! ### a comprehension's block, by a test -/
def blkB (N : List Str) (sc scope : Scope) (own : List (Str × Nat)) : Bool :=
  decide (scope.kind = .function) && (scope.names.all (fun y => decide (scope.names.lookup y.1 = some y.2)) && (own.all (fun p => decide (N[p.2]? = some p.1)) &&
    (scope.names.all (fun y => !decide (y.2 = .free) || (decide (sc.names.lookup y.1 = some .cell) || decide (sc.names.lookup y.1 = some .free))) &&
      scope.names.all (fun y => !(decide (y.2 = .local) || decide (y.2 = .cell)) || (decide (y.1 ∈ own.map (·.1)) || decide (y.1 ∉ N))))))
theorem blk_of {N : List Str} {sc scope : Scope} {own : List (Str × Nat)} (h : blkB N sc scope own = true) : BlkOk N sc scope own := by
  unfold blkB at h
  simp only [Bool.and_eq_true, List.all_eq_true, decide_eq_true_eq, Bool.or_eq_true, Bool.not_eq_true', decide_eq_false_iff_not] at h
  obtain ⟨h1, h2, h3, h4, h5⟩ := h
  refine ⟨h1, h2, h3, fun y hy e => ?_, fun y hy e => ?_⟩
  · rcases h4 y hy with z | z
    · exact absurd e z
    · exact z
  · rcases h5 y hy with z | z
    · rcases e with e | e <;> simp [e] at z
    · exact z
end RW
namespace RW
open PySem L2
section
variable {g : G} {X : Cx} {F F' H H' : Hp}
theorem Pk.ext {v : V} {d : D} (p : Pk g F H v d) (x : Ext F H F' H') : Pk g F' H' v d := by
  rcases p with p | ⟨a, o, rfl, e, p⟩
  · exact .inl (p.mono x.le)
  · exact .inr ⟨a, o, rfl, x.heap _ _ e, p.mono x.le⟩
/-! ### isinstance -/
def tyN : D → Option String
  | .non => some "NoneType"
  | .bl _ => some "bool"
  | .int _ => some "int"
  | .str _ => some "str"
  | .lst _ => some "list"
  | .tup _ => some "tuple"
  | .dct false _ => some "dict"
  | _ => none
theorem Pk.ty {v : V} {d : D} {n : String} (h : Sub F H) (p : Pk g F H v d) (e : tyN d = some n) : TyX g.K H v (.type n) := by
  cases d with
  | non => cases e; obtain rfl := p.non; exact .base .non
  | bl b => cases e; obtain rfl := p.bl; exact .base (.bl _)
  | int b => cases e; obtain rfl := p.int; exact .base (.int _)
  | str b => cases e; obtain rfl := p.str; exact .base (.str _)
  | lst b => cases e; obtain ⟨a, xs, rfl, h1, _⟩ := p.lst h; exact .base (.lst h1)
  | tup b =>
    cases e
    obtain ⟨a, xs, rfl, h1, _⟩ := p.tup h
    rcases h1 with (h1 | ⟨ob, h1⟩) | ⟨o, its, n, h1, h2, _⟩
    · exact .base (.tup h1)
    · exact .fTuple h1
    · exact .kTuple h1 h2
  | dct t es =>
    cases t with
    | true => cases e
    | false =>
      cases e
      obtain ⟨a, kvs, rfl, h1, _⟩ := p.dK h
      rcases h1 with h1 | ⟨ob, h1⟩
      · exact .base (.dK h1)
      · exact .fDict h1
  | _ => cases e
/-- a is b, or lies below it -/
def isT (a b : String) : Bool := (a == b) || (a == "bool" && b == "int")
def tyL : List String := ["NoneType", "bool", "int", "str", "list", "tuple", "dict"]
theorem kitL : (tyL.all fun a => (["str", "list", "tuple", "dict", "int", "bool"] : List String).all fun b => decide (kitB a b = some (isT a b))) = true := by decide +kernel
theorem kit_is {a b : String} (ha : a ∈ tyL) (hb : b ∈ (["str", "list", "tuple", "dict", "int", "bool"] : List String)) : kitB a b = some (isT a b) :=
  of_decide_eq_true (List.all_eq_true.mp (List.all_eq_true.mp kitL a ha) b hb)
theorem tyN_mem {d : D} {n : String} (e : tyN d = some n) : n ∈ tyL := by
  unfold tyN at e
  split at e <;> first | cases e; decide | cases e
def isiD (b : String) (d : D) : Option Vr := (tyN d).map fun a => .sh (.bl (isT a b))
def isiD2 (b b' : String) (d : D) : Option Vr := (tyN d).map fun a => .sh (.bl (isT a b || isT a b'))
theorem boot_isi : bootBuiltins "isinstance" = some (.builtin "isinstance") := by with_unfolding_all rfl
theorem p_isi {b : String} (hb : b ∈ (["str", "list", "tuple", "dict", "int", "bool"] : List String)) : Op1 g (isiD b) (fun x H Q => rIsi g.K [x, .ty b] H Q) := by
  refine ⟨fun x z e i => ?_, fun F H x dx z Q s p e n => ?_⟩
  · obtain ⟨a, _, rfl⟩ := Option.map_eq_some_iff.mp e
    exact fun z => nomatch z
  · obtain ⟨a, ea, rfl⟩ := Option.map_eq_some_iff.mp e
    exact ⟨x, .ty b, _, _, _, rfl, .ty b, p.ty s ea, kit_ty (kit_is (tyN_mem ea) hb), n F _ H (Ext.refl s) (.bl _)⟩
theorem d_isi {b : Str} {bs : String} {a : Expr} {ma : M g.R.S Vr} {p pos p2 : Pos} {k : Nat} (o : XO g k X) (hg : Gl X "isinstance") (hm : X.mg "isinstance" = none) (hg2 : Gl X b) (hm2 : X.mg b = none) (ha : DE g X a ma) (hv : bootBuiltins b = some (.type bs) := by with_unfolding_all rfl) (hb : bs ∈ (["str", "list", "tuple", "dict", "int", "bool"] : List String) := by decide)
    (hn : b ≠ "__name__" := by decide) (hd : (b == ("__debug__" : Str)) = false := by decide)
    (he : starEach [a, .Name b p2] X.env = (false, eval a X.env) :: starEach [.Name b p2] X.env := by rfl) (he2 : starEach [.Name b p2] X.env = (false, eval (.Name b p2) X.env) :: starEach [] X.env := by rfl) (hpl : (backTo pos (starEach [.Name b p2] X.env)).any (·.1) = false := by rfl) :
    DE g X (.Call (.Name "isinstance" p) [a, .Name b p2] [] pos) (mOp1 (isiD bs) ma) :=
  PE.imp (pe_callB call_isi hg hm boot_isi (pa_cons ha (pa_cons (pe_bltn hg2 hm2 hv (v := .ty bs) rfl hn hd) pa_nil he2) he) (by decide) (by decide) he hpl) fun σ H Q h => by
    have q := tOp1_of (p_isi (g := g) hb) h
    rw [← o.K] at q
    exact q
theorem p_isi2 {b b' : String} (hb : b ∈ (["str", "list", "tuple", "dict", "int", "bool"] : List String)) (hb' : b' ∈ (["str", "list", "tuple", "dict", "int", "bool"] : List String)) :
    Op1 g (isiD2 b b') (fun x H Q => ([V.ty b, V.ty b'] : List V).length ≤ sizeLine ∧ ∀ p, H p = none → rIsiT g.K [x, .ref p] (upd H p (.tup [.ty b, .ty b'])) Q) := by
  refine ⟨fun x z e i => ?_, fun F H x dx z Q s p e n => ⟨by show 2 ≤ sizeLine; decide, fun a ha => ?_⟩⟩
  · obtain ⟨a, _, rfl⟩ := Option.map_eq_some_iff.mp e
    exact fun z => nomatch z
  · obtain ⟨t, ea, rfl⟩ := Option.map_eq_some_iff.mp e
    have x' : Ext F H F (upd H a (.tup [.ty b, .ty b'])) := Ext.tmp s ha
    refine ⟨x, a, _, _, _, _, rfl, upd_same, .cons (.ty b) (.cons (.ty b') .nil), (p.ext x').ty x'.sub ea, ?_, n F _ _ x' (.bl _)⟩
    refine kitAny_cons (kit_ty (kit_is (tyN_mem ea) hb)) (fun h1 => kitAny_cons (kit_ty (kit_is (tyN_mem ea) hb')) (fun h2 => ?_) (fun h2 => ?_)) (fun h1 => ?_)
    · rw [h1, h2]; exact kitAny_nil
    · rw [h2, Bool.or_true]
    · rw [h1, Bool.true_or]
theorem d_isi2 {b b' : Str} {bs bs' : String} {a : Expr} {ma : M g.R.S Vr} {p pos p2 p3 p4 : Pos} {x1} {k : Nat} (o : XO g k X) (hg : Gl X "isinstance") (hm : X.mg "isinstance" = none) (hg2 : Gl X b) (hm2 : X.mg b = none) (hg3 : Gl X b') (hm3 : X.mg b' = none) (ha : DE g X a ma) (hv : bootBuiltins b = some (.type bs) := by with_unfolding_all rfl) (hv' : bootBuiltins b' = some (.type bs') := by with_unfolding_all rfl)
    (hb : bs ∈ (["str", "list", "tuple", "dict", "int", "bool"] : List String) := by decide) (hb' : bs' ∈ (["str", "list", "tuple", "dict", "int", "bool"] : List String) := by decide)
    (hn : b ≠ "__name__" := by decide) (hd : (b == ("__debug__" : Str)) = false := by decide) (hn' : b' ≠ "__name__" := by decide) (hd' : (b' == ("__debug__" : Str)) = false := by decide)
    (he : starEach [a, .Tuple [.Name b p2, .Name b' p3] x1 p4] X.env = (false, eval a X.env) :: starEach [.Tuple [.Name b p2, .Name b' p3] x1 p4] X.env := by rfl) (he2 : starEach [.Tuple [.Name b p2, .Name b' p3] x1 p4] X.env = (false, eval (.Tuple [.Name b p2, .Name b' p3] x1 p4) X.env) :: starEach [] X.env := by rfl)
    (he3 : starEach [.Name b p2, .Name b' p3] X.env = (false, eval (.Name b p2) X.env) :: starEach [.Name b' p3] X.env := by rfl) (he4 : starEach [.Name b' p3] X.env = (false, eval (.Name b' p3) X.env) :: starEach [] X.env := by rfl) (hpl : (backTo pos (starEach [.Tuple [.Name b p2, .Name b' p3] x1 p4] X.env)).any (·.1) = false := by rfl) :
    DE g X (.Call (.Name "isinstance" p) [a, .Tuple [.Name b p2, .Name b' p3] x1 p4] [] pos) (mOp1 (isiD2 bs bs') ma) :=
  PE.imp (pe_callB call_isiT hg hm boot_isi (pa_cons ha (pa_cons (pe_tup (pa_cons (pe_bltn hg2 hm2 hv (v := .ty bs) rfl hn hd) (pa_cons (pe_bltn hg3 hm3 hv' (v := .ty bs') rfl hn' hd') pa_nil he4) he3)) pa_nil he2) he) (by decide) (by decide) he hpl) fun σ H Q h => by
    have q := tOp1_of (p_isi2 (g := g) hb hb') h
    rw [← o.K] at q
    exact q
/-- what K tells of a class of one's own -/
structure IsC (K : PySem.W.Frag) (C : Addr) : Prop where
  cl : Cls K C
  ha : PySem.W.findIn K (.ref C) "__class__" = some (some (.builtin "object.__class__"))
  hn : PySem.W.specialIn K (.builtin "object.__class__") "__get__" = some (some (.builtin "getset_descriptor.__get__"))
  htk : PySem.W.takesIn K (.builtin "object.__class__") = some true
  hm : PySem.W.mroIn K C (.type "object") = some true
def isiC (c : Nat) : D → Option Vr
  | .obj c' _ => if c' = c then some (.sh (.bl true)) else none
  | _ => none
theorem p_isiC {c : Nat} (ic : IsC g.K (g.cls c)) : Op1 g (isiC c) (fun x H Q => rIsi g.K [x, .ref (g.cls c)] H Q) := by
  refine ⟨fun x z e i => ?_, fun F H x dx z Q s p e n => ?_⟩
  · unfold isiC at e
    split at e
    · split at e
      · cases e; exact fun z => nomatch z
      · cases e
    · cases e
  · unfold isiC at e
    split at e
    · split at e
      · rename_i hc
        subst hc
        cases e
        obtain ⟨a, dx, fs, rfl, h1, _⟩ := p.obj s
        refine ⟨_, _, _, _, true, rfl, .own _, .base (.ins h1 ic.cl ic.ha ic.hn ic.htk ic.hm), ?_, n F _ H (Ext.refl s) (.bl _)⟩
        unfold PySem.W.kitOne
        rw [if_pos (by simp)]
      · cases e
    · cases e
theorem d_isiC {b : Str} {a : Expr} {ma : M g.R.S Vr} {p pos p2 : Pos} {k : Nat} (c : Nat) (o : XO g k X) (hg : Gl X "isinstance") (hm : X.mg "isinstance" = none) (hg2 : Gl X b) (hm2 : X.mg b = some (.ref (g.cls c))) (ic : IsC g.K (g.cls c)) (ha : DE g X a ma)
    (hd : (b == ("__debug__" : Str)) = false := by decide)
    (he : starEach [a, .Name b p2] X.env = (false, eval a X.env) :: starEach [.Name b p2] X.env := by rfl) (he2 : starEach [.Name b p2] X.env = (false, eval (.Name b p2) X.env) :: starEach [] X.env := by rfl) (hpl : (backTo pos (starEach [.Name b p2] X.env)).any (·.1) = false := by rfl) :
    DE g X (.Call (.Name "isinstance" p) [a, .Name b p2] [] pos) (mOp1 (isiC c) ma) :=
  PE.imp (pe_callB call_isi hg hm boot_isi (pa_cons ha (pa_cons (pe_glob hg2 hm2 (v := .ref (g.cls c)) rfl hd) pa_nil he2) he) (by decide) (by decide) he hpl) fun σ H Q h => by
    have q := tOp1_of (p_isiC ic) h
    rw [← o.K] at q
    exact q
/-! ### zip -/
theorem it_zipL {a b : Addr} {xs ys : List V} {ds es : List D} (ea : F a = some (.lst xs)) (eb : F b = some (.lst ys)) (r : RepAll g F xs ds) (q : RepAll g F ys es) : IterOk g F H (Itz g.K a b) (zipOf ds es) := by
  refine ⟨fun F2 H2 le s _ i d hd => ?_, fun F2 H2 le s _ => ⟨xs, ys, SqL.of (s.at_ (le _ _ ea) nd_lst), SqL.of (s.at_ (le _ _ eb) nd_lst), ?_⟩⟩
  · have h2 : H2 a = some (.lst xs) := s.at_ (le _ _ ea) nd_lst
    have h2' : H2 b = some (.lst ys) := s.at_ (le _ _ eb) nd_lst
    unfold zipOf at hd
    rw [List.getElem?_map] at hd
    obtain ⟨⟨d1, d2⟩, hq, rfl⟩ := Option.map_eq_some_iff.mp hd
    rw [List.getElem?_zip_eq_some] at hq
    obtain ⟨x, h3, h4⟩ := r.get hq.1
    obtain ⟨y, h3', h4'⟩ := q.get hq.2
    refine ⟨⟨xs, ys, x, y, SqL.of h2, SqL.of h2', h3, h3'⟩, fun z H3 ⟨T, x', y', h5, h6, h7, h8, h9⟩ => ?_⟩
    have := h8 xs (SqL.of h2)
    rw [h3] at this; cases this
    have := h9 ys (SqL.of h2')
    rw [h3'] at this; cases this
    subst h7
    have xx : Ext F2 H2 (upd F2 T (.tup [x, y])) (upd H2 T (.tup [x, y])) := Ext.new s h6
    refine ⟨_, xx, ?_⟩
    rw [h5]
    exact .tup upd_same (.cons (h4.mono (le.trans xx.le)) (.cons (h4'.mono (le.trans xx.le)) .nil))
  · have := r.length; have := q.length
    simp [zipOf]
    omega
theorem it_zipT {a b : Addr} {xs ys : List V} {ds es : List D} (ea : ∀ F2 H2, Le F F2 → Sub F2 H2 → SqT g.K H2 a xs) (eb : ∀ F2 H2, Le F F2 → Sub F2 H2 → SqT g.K H2 b ys) (r : RepAll g F xs ds) (q : RepAll g F ys es) : IterOk g F H (RZ.ItzT g.K a b) (zipOf ds es) := by
  refine ⟨fun F2 H2 le s _ i d hd => ?_, fun F2 H2 le s _ => ⟨xs, ys, ea F2 H2 le s, eb F2 H2 le s, ?_⟩⟩
  · have h2 := ea F2 H2 le s
    have h2' := eb F2 H2 le s
    unfold zipOf at hd
    rw [List.getElem?_map] at hd
    obtain ⟨⟨d1, d2⟩, hq, rfl⟩ := Option.map_eq_some_iff.mp hd
    rw [List.getElem?_zip_eq_some] at hq
    obtain ⟨x, h3, h4⟩ := r.get hq.1
    obtain ⟨y, h3', h4'⟩ := q.get hq.2
    refine ⟨⟨xs, ys, x, y, h2, h2', h3, h3'⟩, fun z H3 ⟨T, x', y', h5, h6, h7, h8, h9⟩ => ?_⟩
    have := h8 xs h2
    rw [h3] at this; cases this
    have := h9 ys h2'
    rw [h3'] at this; cases this
    subst h7
    have xx : Ext F2 H2 (upd F2 T (.tup [x, y])) (upd H2 T (.tup [x, y])) := Ext.new s h6
    refine ⟨_, xx, ?_⟩
    rw [h5]
    exact .tup upd_same (.cons (h4.mono (le.trans xx.le)) (.cons (h4'.mono (le.trans xx.le)) .nil))
  · have := r.length; have := q.length
    simp [zipOf]
    omega
def zipI : List D → Option (List D)
  | [.lst ds, .lst es] => some (zipOf ds es)
  | [.tup ds, .tup es] => some (zipOf ds es)
  | _ => none
def mZip {R : Type} (ma : M R (List Vr)) : M R (List D) := fun s => (ma s).bind fun p => (escAll p.1 p.2).bind fun q => (zipI q.1).map fun ds => (ds, q.2)
theorem i_zip {e e2 : Expr} {ma : M g.R.S (List Vr)} {p pos tpos : Pos} {elts : List Expr} {kk : Nat} {k : Nat} (o : XO g k X) (hg : Gl X "zip") (hm : X.mg "zip" = none) (ha : DA g X 2 [e, e2] ma)
    (hs : starEach [e, e2] X.env = (false, eval e X.env) :: starEach [e2] X.env := by rfl) (hpl : (backTo pos (starEach [e2] X.env)).any (·.1) = false := by rfl) :
    DI g X (.Tuple elts kk tpos) (.Call (.Name "zip" p) [e, e2] [] pos) (mZip ma) := by
  refine PI.imp (RZ.pi_zipA hg hm ha hs hpl) fun σ H R ⟨F, s, ds, s', I, e, k⟩ => ?_
  unfold mZip at e
  obtain ⟨p, e1, e0⟩ := Option.bind_eq_some_iff.mp e
  obtain ⟨q, e2, e0⟩ := Option.bind_eq_some_iff.mp e0
  obtain ⟨zs, e3, e0⟩ := Option.map_eq_some_iff.mp e0
  cases e0
  refine ⟨F, s, p.1, p.2, I, e1, fun F1 vs H1 I1 K1 w1 hl => ?_⟩
  obtain ⟨F2, I2, K2, r2⟩ := escAll_ok I1 w1 e2
  have K12 := K1.trans K2 I2
  unfold zipI at e3
  split at e3
  · rename_i d1 d2 hq
    cases e3
    rw [hq] at r2
    cases r2 with
    | cons r1 r2 =>
      cases r2 with
      | cons r2 r3 =>
        cases r3
        obtain ⟨a, xs, rfl, h1, h2⟩ := r1.lstIn
        obtain ⟨b, ys, rfl, h3, h4⟩ := r2.lstIn
        refine ⟨a, b, xs, ys, rfl, .inl ⟨SqL.of (I2.sub.at_ h1 nd_lst), SqL.of (I2.sub.at_ h3 nd_lst), ?_⟩⟩
        rw [o.K]
        exact k F2 H1 H1 _ I2 K12 (.inl rfl) (it_zipL h1 h3 h2 h4)
  · rename_i d1 d2 hq
    cases e3
    rw [hq] at r2
    cases r2 with
    | cons r1 r2 =>
      cases r2 with
      | cons r2 r3 =>
        cases r3
        obtain ⟨a, xs, rfl, h1, h2⟩ := r1.tupIn
        obtain ⟨b, ys, rfl, h3, h4⟩ := r2.tupIn
        refine ⟨a, b, xs, ys, rfl, .inr ⟨by rw [o.K]; exact h1.sq I2.sub, by rw [o.K]; exact h3.sq I2.sub, ?_⟩⟩
        rw [o.K]
        exact k F2 H1 H1 _ I2 K12 (.inl rfl) (it_zipT (fun F3 H3 le s => (h1.mono le).sq s) (fun F3 H3 le s => (h3.mono le).sq s) h2 h4)
  · cases e3
end
end RW
set_option maxHeartbeats 4000000
/-! sets of any number of texts: how many there are -/
namespace RW.SetTx
open PySem PySem.Spec PyProof.Rows
/-- the different ones, as they are met -/
def ddS (xs : List Str) : List Str := xs.foldl (fun acc x => if acc.any (· == x) then acc else acc ++ [x]) []
theorem ddS_snoc (xs : List Str) (x : Str) : ddS (xs ++ [x]) = if (ddS xs).any (· == x) then ddS xs else ddS xs ++ [x] := by
  unfold ddS
  rw [List.foldl_append]
  rfl
theorem ddS_any : ∀ (n : Nat) (xs : List Str), xs.length = n → ∀ k : Str, (ddS xs).any (· == k) = xs.any (· == k) := by
  intro n
  induction n with
  | zero =>
    intro xs h
    have : xs = [] := List.length_eq_zero_iff.mp h
    subst this
    exact fun _ => rfl
  | succ n ih =>
    intro xs h k
    have hne : xs ≠ [] := fun z => by rw [z] at h; cases h
    obtain ⟨ys, y, rfl⟩ : ∃ ys y, xs = ys ++ [y] := ⟨_, _, (List.dropLast_concat_getLast hne).symm⟩
    have hl : ys.length = n := by simpa using h
    rw [ddS_snoc, List.any_append]
    split
    · rename_i hy
      rw [ih ys hl y] at hy
      rw [ih ys hl k]
      cases hk : ys.any (· == k) with
      | true => rfl
      | false =>
        cases e : (y == k) with
        | false => simp [e]
        | true =>
          have := eq_of_beq e
          subst this
          rw [hk] at hy; cases hy
    · rw [List.any_append, ih ys hl k]
theorem ddS_len (xs : List Str) : (ddS xs).length ≤ xs.length := by
  have : ∀ (n : Nat) (xs : List Str), xs.length = n → (ddS xs).length ≤ n := by
    intro n
    induction n with
    | zero =>
      intro xs h
      have : xs = [] := List.length_eq_zero_iff.mp h
      subst this
      exact Nat.le_refl _
    | succ n ih =>
      intro xs h
      have hne : xs ≠ [] := fun z => by rw [z] at h; cases h
      obtain ⟨ys, y, rfl⟩ : ∃ ys y, xs = ys ++ [y] := ⟨_, _, (List.dropLast_concat_getLast hne).symm⟩
      have hl : ys.length = n := by simpa using h
      have := ih ys hl
      rw [ddS_snoc]
      split
      · omega
      · rw [List.length_append]; simp; omega
  exact this _ _ rfl
section
variable {prog : Program} {w : World} {A : Around}
abbrev Has (prog : Program) (w : World) (h : Heap) (S : Addr) (ys : List Str) : Prop := h.SetOf (PySem.strKind prog w) S (fun k' => ys.any (· == k')) (ddS ys).length
theorem Has.at {h h' : Heap} {S : Addr} {ys : List Str} (R : Has prog w h S ys) (k : ∀ o, h.get? S = some o → h'.get? S = some o) : Has prog w h' S ys :=
  let ⟨o, es, ep, tb, ho, rest⟩ := R
  ⟨o, es, ep, tb, k o ho, rest⟩
theorem loop {R : Result → Shared → Prop} {I : Addr} {fp wr : List Addr} {G : Array GenState → Array GenState → Prop} {n : Nat} {P : Nat → Value → Prop} {St : Nat → Shared → Prop} (W : WalksS prog w A.in1 I fp wr G n P St) (S : Addr) (nS : S ∉ fp) (xs : List Str) (hz : xs.length = n) (few : n < 4000)
    (vl : ∀ i v, P i v → ∃ t, v = .str (xs.getD i Str.empty) t) : ∀ (k i : Nat) (s : Shared), n - i = k → i ≤ n → St i s → Has prog w s.heap S (xs.take i) →
      (∀ s', Moved (S :: wr) G s s' → Has prog w s'.heap S xs → R (.ok (.ret .none)) s') → codeAny (model prog w) A (.builtin "set.update.loop" ⟨[.ref S, .ref I], []⟩) R s := by
  have nW : S ∉ wr := fun z => nS (W.sub _ z)
  have sb : ∀ b ∈ wr, b ∈ S :: wr := fun b hb => List.mem_cons_of_mem _ hb
  intro k
  induction k with
  | zero =>
    intro i s hk hi st hS hR
    refine codeAny_builtin PyProof.Rows.F.entry_set_update_loop (by
      rw [Around.under_plainId PyProof.Rows.F.plain_set_update_loop _]
      show wpAny _ A.in1 (pyNext (.ref I) >>= _) _ _ s
      have ei : i = n := by omega
      subst ei
      refine wpAny_bind (W.done s _ _ st fun s' hm => ?_)
      show wpAny _ A.in1 (ret Value.none) _ _ s'
      rw [List.take_of_length_le (by omega)] at hS
      exact wpAny_pure (hR s' (hm.mono sb) (hS.at fun o e => hm.heap S _ nW e)))
  | succ k ih =>
    intro i s hk hi st hS hR
    have lt : i < n := by omega
    refine codeAny_builtin PyProof.Rows.F.entry_set_update_loop (by
      rw [Around.under_plainId PyProof.Rows.F.plain_set_update_loop _]
      show wpAny _ A.in1 (pyNext (.ref I) >>= _) _ _ s
      refine wpAny_bind (W.item i s _ _ lt st fun v s' hP st' hm => ?_)
      obtain ⟨t, rfl⟩ := vl i v hP
      have hS1 := hS.at (h' := s'.heap) fun o e => hm.heap S _ nW e
      show wpAny _ A.in1 (holding [Value.str (xs.getD i Str.empty) t] (setAdd S (.str (xs.getD i Str.empty) t)) >>= _) _ _ s'
      have lz : i < xs.length := by omega
      have et : xs.take (i + 1) = xs.take i ++ [xs.getD i Str.empty] := by
        rw [List.take_add_one, List.getElem?_eq_getElem lz, List.getD_eq_getElem?_getD, List.getElem?_eq_getElem lz]
        rfl
      have cl : (ddS (xs.take i)).length ≤ i := Nat.le_trans (ddS_len _) (List.length_take_le _ _)
      refine wpAny_bind (wpAny_holding (by
        unfold setAdd
        refine wpAny_holding (wpAny_bind ((PySem.strKind prog w).pyHash (k := xs.getD i Str.empty) (strKind_is _ _ _ _) ?_))
        refine wpAny_setAddHashed_of (knd := PySem.strKind prog w) (s := { s' with toks := s'.toks + 1 }) (strKind_is _ _ _ _) rfl hS1 (by unfold scanBound; omega) fun h' hsb hS2 => ?_
        have hS3 : Has prog w h' S (xs.take (i + 1)) := by
          rw [et]
          refine PyProof.Rows.SetOf_congr hS2 (fun k' => ?_) ?_
          · rw [List.any_append]
            congr 1
            by_cases e : k' = xs.getD i Str.empty
            · subst e; simp
            · have hb : (xs.getD i Str.empty == k') = false := by simpa [beq_iff_eq] using (fun z : xs.getD i Str.empty = k' => e z.symm)
              simp only [List.any_cons, List.any_nil, hb, Bool.or_false]
              exact decide_eq_false e
          · rw [ddS_snoc, ddS_any _ _ rfl]
            split
            · rfl
            · rw [List.length_append]; rfl
        refine wpAny_pure ⟨plainId_quiet PyProof.Rows.F.plain_set_update_loop _, ih (i + 1) _ (by omega) lt (W.frame _ s' _ _ st' (Nat.le_succ _) fun b hb o e => ?_) hS3 fun s'' hm'' hS'' => ?_⟩
        · rw [hsb.2 b (fun z : b = S => nS (by rw [← z]; exact hb))]; exact e
        · refine hR s'' (Moved.trans W.gtrans ((hm.mono sb).then_heap (Nat.le_succ _) fun b o hb e => ?_) hm'') hS''
          rw [hsb.2 b (fun z : b = S => hb (by rw [z]; exact List.mem_cons_self))]; exact e)))
/-- what is walked: a list or a tuple -/
structure Src (prog : Program) (w : World) (T : String) (l : Addr) (ob : Obj) (items : Array Value) (oI : Heap → Obj) (St : Addr → Nat → Heap → Prop) : Prop where
  cls : ob.cls = .type T
  set : isSubtype (.type T) (.type "set") = pure false
  froz : isSubtype (.type T) (.type "frozenset") = pure false
  dict : (Value.type T == Value.type "dict") = false
  iter : ∀ (A : Around) (E : Value → Shared → Prop) (s : Shared) (Q : Value → Shared → Prop), s.heap.get? l = some ob → Q (.ref s.heap.objs.size) { s with heap := s.heap.push (oI s.heap) } → wpAny (model prog w) A (pyIter (.ref l)) Q E s
  walk : ∀ (A : Around) (h : Heap), A.handled = none → l ≠ h.objs.size → Walks prog w A h.objs.size [h.objs.size, l] [h.objs.size] items.size (fun i v => items[i]? = some v) (St h.objs.size)
  init : ∀ h : Heap, h.get? l = some ob → St h.objs.size 0 (h.push (oI h))
theorem call_set {T : String} {l : Addr} {ob : Obj} {items : Array Value} {oI : Heap → Obj} {St : Addr → Nat → Heap → Prop} {xs : List Str} {E : Value → Shared → Prop} {s : Shared} {Q : Value → Shared → Prop} (src : Src prog w T l ob items oI St) (hol : s.heap.get? l = some ob)
    (hh : A.handled = none) (hi : StrsAre items.toList xs) (few : xs.length < 4000)
    (hq : ∀ (h' : Heap) (tk : Nat), Has prog w h' s.heap.objs.size xs → (∀ b o, b < s.heap.objs.size → s.heap.get? b = some o → h'.get? b = some o) → Q (.ref s.heap.objs.size) { s with heap := h', toks := tk }) :
    wpAny (model prog w) A (call (.type "set") [.ref l]) Q E s := by
  obtain ⟨c, tl, hmro⟩ := PySem.F.called_set.mro
  have ⟨hmade, hsub⟩ := And.intro PySem.F.called_set.made PySem.F.called_set.sub
  refine wpAny_call (codeAny_of_tree (show wpAny _ _ (callAny (.type "set") _) _ _ _ from wpAny_pure ⟨Code.quiet_builtin _ (by decide +kernel), codeAny_builtin PySem.F.entry_type_call ?_⟩))
  rw [Around.under_plain (weight_type_call_type "set" [.ref l] []) rfl]
  have ⟨h1, h2⟩ := And.intro PySem.F.called_set.notType PySem.F.called_set.canCreate
  have hct := PySem.F.typeCall_set_1 (.ref l)
  repeat (any_goals (first | assumption | wp_step))

  refine codeAny_mono (code_set_new_1 (.ref l) (E := E) (Q₁ := fun obj s1 => ∃ led : Bool, obj = .ref s.heap.objs.size ∧ s1 = { s with heap := s.heap.push { cls := .type "set", dict := none, data := .set #[] 0 (.fresh 0 0 led) } }) fun led => ⟨led, rfl, rfl⟩) fun r s1 hr => ?_
  match r, hr with
  | .error e, hr => exact hr
  | .ok (.next), hr => exact hr.elim
  | .ok (.brk), hr => exact hr.elim
  | .ok (.cont), hr => exact hr.elim
  | .ok (.ret obj), hr =>
    obtain ⟨led, rfl, rfl⟩ := hr
    have hS : (s.heap.push { cls := .type "set", dict := none, data := .set #[] 0 (.fresh 0 0 led) }).get? s.heap.objs.size = some { cls := .type "set", dict := none, data := .set #[] 0 (.fresh 0 0 led) } := Heap.get?_push_size _ rfl
    have hT : Shared.TypeIs { s with heap := s.heap.push { cls := .type "set", dict := none, data := .set #[] 0 (.fresh 0 0 led) } } (.ref s.heap.objs.size) "set" := ⟨_, hS, rfl⟩
    have ⟨hli, hbi⟩ := And.intro PySem.F.called_set.init.lookup (PySem.F.called_set.init.bind (.ref s.heap.objs.size))
    repeat (any_goals (first | assumption | wp_step))

    refine codeAny_mono (codeAny_call_builtin (R := wants (fun r s2 => r = .none ∧ ∃ h' tk, s2 = { s with heap := h', toks := tk } ∧ Has prog w h' s.heap.objs.size xs ∧ (∀ b o, b < s.heap.objs.size → s.heap.get? b = some o → h'.get? b = some o)) E)
      PySem.F.called_set.init.plain PySem.F.entry_set_init (check_set_init_1 hT ?_)) fun r2 s2 hr2 => ?_
    · have hsls := src.set
      have hslf := src.froz
      have hne := src.dict
      have ho1 : (s.heap.push { cls := .type "set", dict := none, data := .set #[] 0 (.fresh 0 0 led) }).get? l = some ob := Heap.get?_push_of_some _ hol
      have hlS : l < s.heap.objs.size := Heap.lt_size hol
      have hcl := src.cls
      have it := src.iter
      have wk := src.walk
      have ini := src.init _ ho1
      clear src
      obtain ⟨ocls, odict, odata, oslots⟩ := ob
      simp only at hcl
      subst hcl
      unfold Builtin.«set.__init__» noKeywords Builtin.Frozenset.updateFrom
      generalize hPI : pyIter = PI
      wp_walk
      subst hPI

      refine it _ _ _ _ ho1 (wpAny_bind (wpAny_runValue ?_))
      have hh3 : A.in1.in1.in1.handled = none := by simp [hh]
      have hz : xs.length = items.size := by rw [← StrsAre.len_eq hi, Array.length_toList]
      refine loop ((wk _ _ hh3 (by rw [Heap.size_push]; exact Nat.ne_of_lt (Nat.lt_succ_of_lt hlS))).toS) s.heap.objs.size (by
          rw [Heap.size_push]
          simp only [List.mem_cons, List.mem_singleton, List.not_mem_nil, or_false, not_or]
          exact ⟨Nat.ne_of_lt (Nat.lt_succ_self _), Nat.ne_of_gt hlS⟩) xs hz (by omega) (fun i v hv => SS.strs_at hi i v (by rw [Array.getElem?_toList]; exact hv)) (items.size - 0) 0 _ (by omega) (Nat.zero_le _) ini ?hS0 ?hR
      case hS0 =>
        exact PyProof.Rows.SetOf_congr ((PyProof.Rows.setObjOf_fresh (knd := PySem.strKind prog w) led).setOf (Heap.get?_push_of_some _ hS) (by unfold scanBound; omega)) (fun _ => rfl) rfl
      case hR =>
        intro s' hm hS'
        obtain ⟨h', g', d', tk', os'⟩ := s'
        obtain rfl : g' = s.gens := hm.gens
        obtain rfl : d' = s.drawn := hm.drawn
        obtain rfl : os' = s.os := hm.os
        refine wpAny_pure (show wpAny _ _ (ret Value.none) _ _ _ from wpAny_pure ⟨rfl, h', tk', rfl, hS', fun b o hb e => ?_⟩)
        refine hm.heap b o ?_ (Heap.get?_push_of_some _ (Heap.get?_push_of_some _ e))
        rw [Heap.size_push]
        simp only [List.mem_cons, List.mem_singleton, List.not_mem_nil, or_false, not_or]
        exact ⟨Nat.ne_of_lt hb, Nat.ne_of_lt (Nat.lt_succ_of_lt hb)⟩
    · match r2, hr2 with
      | .error e, hr2 => exact hr2
      | .ok (.next), hr2 => exact hr2.elim
      | .ok (.brk), hr2 => exact hr2.elim
      | .ok (.cont), hr2 => exact hr2.elim
      | .ok (.ret r), hr2 =>
        obtain ⟨rfl, h', tk, rfl, hS', hk'⟩ := hr2
        repeat (any_goals (first | assumption | wp_step))
        exact hq _ _ hS' hk'
end
end RW.SetTx
set_option maxHeartbeats 4000000
namespace RW.SetTx
open PySem PySem.Spec PyProof.Rows
section
variable {prog : Program} {w : World} {A : Around}
theorem src_list {l : Addr} {items : Array Value} {od : Option Addr} {nl : Nat} {osl : Array (Option Value)} : Src prog w "list" l ⟨.type "list", od, .seq items nl, osl⟩ items (fun _ => { cls := .type "list_iterator", data := .fields #[.ref l, .int 0 0] }) (fun I i h => h.IsListIter I l i ∧ h.IsList l items) where
  cls := rfl
  set := PySem.F.sub_list_set
  froz := PySem.F.sub_list_frozenset
  dict := by decide
  iter := fun A E s Q ho hq => wpAny_pyIter_list ⟨_, ho, rfl, nl, rfl⟩ hq
  walk := fun A h hh hne => Walks.list hh _ l hne items
  init := fun h ho => ⟨⟨_, Heap.get?_push_size _ rfl, rfl, rfl⟩, ⟨_, Heap.get?_push_of_some _ ho, rfl, nl, rfl⟩⟩
theorem src_tuple {l : Addr} {items : Array Value} {od : Option Addr} {nl : Nat} {osl : Array (Option Value)} : Src prog w "tuple" l ⟨.type "tuple", od, .seq items nl, osl⟩ items (fun _ => { cls := .type "tuple_iterator", data := .fields #[.ref l, .int 0 0] }) (fun I i h => h.IsTupleIter I l i ∧ h.IsTuple l items) where
  cls := rfl
  set := PySem.F.sub_tuple_set
  froz := PySem.F.sub_tuple_frozenset
  dict := by decide
  iter := fun A E s Q ho hq => wpAny_pyIter_tuple ⟨_, ho, rfl, nl, rfl⟩ hq
  walk := fun A h hh hne => Walks.tuple hh _ l hne items
  init := fun h ho => ⟨⟨_, Heap.get?_push_size _ rfl, rfl, rfl⟩, ⟨_, Heap.get?_push_of_some _ ho, rfl, nl, rfl⟩⟩
end
end RW.SetTx
namespace RW
open PySem L2
section
variable {g : G} {X : Cx} {F H : Hp}
/-- len(set(xs)), xs a list or a tuple of texts -/
theorem pe_lenSetTx {a : Expr} {ta : TE} {p p2 q pos : Pos} (hc : X.calm = true) (hg : Gl X "len") (hm : X.mg "len" = none) (hg2 : Gl X "set") (hm2 : X.mg "set" = none) (ha : PE X a ta) (na : starEach [a] X.env = (false, eval a X.env) :: starEach [] X.env) :
    PE X (.Call (.Name "len" p) [.Call (.Name "set" p2) [a] [] q] [] pos) (fun σ H Q => ta σ H fun x H1 => ∃ l, ∃ xs : List Str, x = .ref l ∧ (SqL X.K H1 l (xs.map V.str) ∨ SqT X.K H1 l (xs.map V.str)) ∧ xs.length < 4000 ∧ Q (.int (SetTx.ddS xs).length) H1) := ⟨fun pins s σ H Q I h => by
  refine PyProof.Rows.Call_ (ld_blt I hg hm boot_len (PyProof.Rows.callWith_builtin1 (PyProof.Rows.args_cons (PyProof.Rows.Call_ (ld_blt I hg2 hm2 PyProof.Rows.boot_set ?_)) rfl) rfl rfl))
  refine PyProof.Rows.callWith_type1 (PyProof.Rows.args_cons (thn (ha.run pins s σ H _ I h) fun v s1 ⟨x, H1, I1, r1, q1⟩ => PyProof.Rows.args_nil ?_) na) na rfl
  obtain ⟨l, xs, rfl, hq, few, q1⟩ := q1
  cases r1
  have fin : ∀ (h' : Heap) (tk : Nat), SetTx.Has X.prog X.w h' s1.heap.objs.size xs → (∀ b o, b < s1.heap.objs.size → s1.heap.get? b = some o → h'.get? b = some o) →
      wpAny (model X.prog X.w) X.A (spliced (backTo pos (starEach [] X.env))) (fun vs s2 => wpAny (model X.prog X.w) X.A (call (.builtin "len") (Value.ref s1.heap.objs.size :: vs)) (EP X pins σ Q) X.xe s2) X.xe { s1 with heap := h', toks := tk } := fun h' tk hS hk => by
    obtain ⟨o, es, ep, t, ho, hex, hd, _, _, _, hf, hn⟩ := hS
    have I2 : Inv X pins σ H1 { s1 with heap := h', toks := tk } := I1.kept fun b o e => hk b o (Heap.lt_size e) e
    have hle := SetTx.ddS_len xs
    exact PyProof.Rows.args_nil (call_len_set ho hex hd hf (by rw [hn]; omega) ⟨.int _, H1, I2.tok _, ⟨_, by rw [hn]⟩, q1⟩)
  rcases hq with hq | hq
  · obtain ⟨its, r, pl, hz⟩ := I1.list hq
    obtain ⟨⟨oc, od, dt, sl⟩, ho, h1, n, h2⟩ := pl.isList
    simp only at h1 h2
    subst h1 h2
    exact SetTx.call_set SetTx.src_list ho (I1.ok.hd hc) (by simpa using strsAre_of r) few fin
  · obtain ⟨its, r, pl, hz⟩ := I1.tuple hq
    obtain ⟨⟨oc, od, dt, sl⟩, ho, h1, n, h2⟩ := pl
    simp only at h1 h2
    subst h1 h2
    exact SetTx.call_set SetTx.src_tuple ho (I1.ok.hd hc) (by simpa using strsAre_of r) few fin⟩
def lenSetD : D → Option Vr
  | .lst ds => (strsOf ds).bind fun xs => if xs.length < 4000 then some (.sh (.int (SetTx.ddS xs).length)) else none
  | .tup ds => (strsOf ds).bind fun xs => if xs.length < 4000 then some (.sh (.int (SetTx.ddS xs).length)) else none
  | _ => none
theorem d_lenSet {a : Expr} {ma : M g.R.S Vr} {p p2 q pos : Pos} {k : Nat} (o : XO g k X) (hg : Gl X "len") (hm : X.mg "len" = none) (hg2 : Gl X "set") (hm2 : X.mg "set" = none) (ha : DE g X a ma) (na : starEach [a] X.env = (false, eval a X.env) :: starEach [] X.env := by rfl) :
    DE g X (.Call (.Name "len" p) [.Call (.Name "set" p2) [a] [] q] [] pos) (mOp1 lenSetD ma) := by
  refine PE.imp (pe_lenSetTx o.calm hg hm hg2 hm2 ha na) fun σ H Q h => ?_
  refine tOp1_of (r := fun x H1 Q => ∃ l, ∃ xs : List Str, x = .ref l ∧ (SqL X.K H1 l (xs.map V.str) ∨ SqT X.K H1 l (xs.map V.str)) ∧ xs.length < 4000 ∧ Q (.int (SetTx.ddS xs).length) H1) ⟨fun x z e i => ?_, fun F H x dx z Q s p e n => ?_⟩ h
  · unfold lenSetD at e
    split at e
    · obtain ⟨xs, _, e⟩ := Option.bind_eq_some_iff.mp e
      split at e
      · cases e; exact fun z => nomatch z
      · cases e
    · obtain ⟨xs, _, e⟩ := Option.bind_eq_some_iff.mp e
      split at e
      · cases e; exact fun z => nomatch z
      · cases e
    · cases e
  · unfold lenSetD at e
    split at e
    · obtain ⟨xs, h1, e⟩ := Option.bind_eq_some_iff.mp e
      split at e
      · cases e
        obtain ⟨a, vs, rfl, e1, r1⟩ := p.lst s
        rw [strsOf_eq h1] at r1
        rw [rep_strs r1] at e1
        exact ⟨a, xs, rfl, .inl (SqL.of e1), by assumption, n F _ H (Ext.refl s) (.int _)⟩
      · cases e
    · obtain ⟨xs, h1, e⟩ := Option.bind_eq_some_iff.mp e
      split at e
      · cases e
        obtain ⟨a, vs, rfl, e1, r1⟩ := p.tup s
        rw [strsOf_eq h1] at r1
        rw [rep_strs r1] at e1
        exact ⟨a, xs, rfl, .inr (by rw [o.K]; exact e1), by assumption, n F _ H (Ext.refl s) (.int _)⟩
      · cases e
    · cases e
/-! ### min(d), d a dict whose keys are texts -/
def minS (ks : List Str) : Str := ks.getD (argBest (fun i j => decide ((ks.getD i Str.empty).cps.toList < (ks.getD j Str.empty).cps.toList)) (ks.length - 1)) Str.empty
theorem argBest_le (bt : Nat → Nat → Bool) : ∀ n, argBest bt n ≤ n
  | 0 => Nat.le_refl _
  | n + 1 => by
    unfold argBest
    split
    · exact Nat.le_refl _
    · exact Nat.le_succ_of_le (argBest_le bt n)
theorem minS_mem {ks : List Str} (h : ks ≠ []) : minS ks ∈ ks := by
  unfold minS
  have h1 := argBest_le (fun i j => decide ((ks.getD i Str.empty).cps.toList < (ks.getD j Str.empty).cps.toList)) (ks.length - 1)
  have h2 : 0 < ks.length := List.length_pos_iff.mpr h
  have hb : argBest (fun i j => decide ((ks.getD i Str.empty).cps.toList < (ks.getD j Str.empty).cps.toList)) (ks.length - 1) < ks.length := by omega
  rw [List.getD_eq_getElem?_getD, List.getElem?_eq_getElem hb]
  exact List.getElem_mem hb
theorem call_minTx (hc : X.calm = true) : CallR X (.builtin "min") (fun vs H Q => ∃ (a : Addr) (kvs : List (Key × V)) (ks : List Str), vs = [V.ref a] ∧ Rd H a (.dK kvs) ∧ kvs.map (·.1) = ks.map Sum.inr ∧ ks ≠ [] ∧ Q (.str (minS ks)) H) := by
  intro pins s σ H vs us Q I r h
  obtain ⟨a, kvs, ks, rfl, ha, hv, hne, q⟩ := h
  rw [Vals.ref1 r]
  obtain ⟨_, hsys, vs, rel, dof⟩ := dk_rd I.hok ha
  obtain ⟨ep, dat⟩ := dof.dictAt
  have hlt : a < s.heap.objs.size := dat.lt_size
  have hkeys : vs.map (·.1) = ks.map Sum.inr := (KV.keys rel).symm.trans hv
  have hlv : vs.length = ks.length := by simpa using congrArg List.length hkeys
  have hval : ∀ (i : Nat) (v : Value), (∃ k x, vs[i]? = some (k, x) ∧ (mixKind X.prog X.w).is k v = true) → ∃ t, v = Value.str (ks.getD i Str.empty) t := fun i v ⟨k, x, hk, hkey⟩ => by
    have e1 : (vs.map (·.1))[i]? = some k := by rw [List.getElem?_map, hk]; rfl
    rw [hkeys, List.getElem?_map] at e1
    obtain ⟨j, hj, rfl⟩ := Option.map_eq_some_iff.mp e1
    obtain ⟨t, e3⟩ := Value.isStrOf_shape (x := j) (v := v) hkey
    exact ⟨t, by rw [e3, List.getD_eq_getElem?_getD, hj]; rfl⟩
  refine call_min_walk (wpAny_pyIter_dict (knd := mixKind X.prog X.w) hsys dat ⟨_, _, _, _, _, _, fun i j => decide ((ks.getD i Str.empty).cps.toList < (ks.getD j Str.empty).cps.toList), rfl,
    Walks.dictKeys (knd := mixKind X.prog X.w) (A := X.A.in1) (I.ok.hd hc) s.heap.objs.size a (Nat.ne_of_lt hlt) vs ep, ⟨⟨_, Heap.get?_push_size _ rfl, rfl, rfl⟩, dat.keep fun b u e => Heap.get?_push_of_some _ e⟩, fun b hb => ?_, by rw [hlv]; exact List.length_pos_iff.mpr hne, ?_, fun v h' tk hP hk => ?_⟩)
  · show b < (s.heap.push _).objs.size
    rw [Heap.size_push]
    rcases List.mem_cons.mp hb with e | e
    · rw [e]; exact Nat.lt_succ_self _
    · rw [List.mem_singleton.mp e]; exact Nat.lt_succ_of_lt hlt
  · intro i j vi vj s' Q' E' hi hj hQ
    obtain ⟨t, rfl⟩ := hval i vi hi
    obtain ⟨t', rfl⟩ := hval j vj hj
    exact PyProof.Rows.lt_str hQ
  · obtain ⟨t, rfl⟩ := hval _ v hP
    refine ⟨.str _, H, I.kept (t' := tk) fun b u e => hk b u (fun hmem => ?_) (Heap.get?_push_of_some _ e), ⟨t, rfl⟩, ?_⟩
    · have e2 := Heap.lt_size e
      rw [List.mem_singleton.mp hmem] at e2
      exact absurd e2 (Nat.lt_irrefl _)
    · rw [hlv]; exact q
def min1 : D → Option Vr
  | .dct false es => (keysStr es).bind fun ks => if ks = [] then none else some (.sh (.str (minS ks)))
  | _ => none
/-! ### tuple(d) -/
theorem code_tupD {A : Around} {E : Value → Shared → Prop} {s : Shared} {prog : Program} {w : World} {kvs : List (Key × Value)} {ep : Nat} {d : Addr} {Q1 : Value → Shared → Prop} (hh : A.handled = none) (lo : (d == sysModules) = false) (hat : s.heap.DictAt (mixKind prog w) d kvs ep) (hn : kvs.length ≤ sizeLine)
    (h : ∀ (h' : Heap) (tk : Nat) (acc : Array Value), (∀ b o, s.heap.get? b = some o → h'.get? b = some o) → ItemsOf (fun i v => ∃ k x, kvs[i]? = some (k, x) ∧ (mixKind prog w).is k v = true) acc kvs.length → Q1 (.ref h'.objs.size) { s with heap := h'.push { cls := .type "tuple", data := .seq acc }, toks := tk }) :
    codeAny (model prog w) A (.call (.builtin "tuple.__new__") ⟨[.type "tuple", .ref d], []⟩) (wants Q1 E) s := by
  refine codeAny_of_tree (show wpAny _ A.in1 (do checkBuiltinCall "tuple.__new__" ⟨[.type "tuple", .ref d], []⟩; again (.builtin "tuple.__new__" ⟨[.type "tuple", .ref d], []⟩)) _ _ s from ?_)
  refine wpAny_bind (wpAny_of_eq (F.newCall_tuple_1 _) (wpAny_pure ⟨plainId_quiet F.plain_tuple_new _, codeAny_builtin F.entry_tuple_new ?_⟩))
  rw [Around.under_plainId F.plain_tuple_new _]
  have ⟨hsub, hinit⟩ := And.intro sub_tuple_self init_tuple_lookup
  have ⟨hmh, hTI⟩ := And.intro madeHere_tuple (hat.dictOf.typeIs (s := s))
  have hh1 : A.in1.handled = none := hh
  wp_walk using wpAny_typeOf hTI, PySem.W.kdu_collect (A := A.in1) (PySem.W.kdl_dict (knd := mixKind prog w) (kvs := kvs) (ep := ep) lo) hh1 hat hn
  intro h' tk acc hk hacc
  refine (show wpAny _ _ (Builtin.Tuple.tupleExact acc.toList.toArray >>= fun v => ret v) _ _ _ from ?_)
  unfold Builtin.Tuple.tupleExact
  refine wpAny_bind (wpAny_newObj_type (wpAny_pure ?_) (by show acc.toList.toArray.size ≤ sizeLine; rw [List.size_toArray, Array.length_toList, hacc.1]; exact hn))
  rw [Array.toArray_toList]
  exact h h' tk acc hk hacc
theorem call_tupD (hc : X.calm = true) : CallR X (.type "tuple") (fun xs H Q => ∃ (a : Addr) (kvs : List (Key × V)) (ks : List Str), xs = [V.ref a] ∧ Rd H a (.dK kvs) ∧ kvs.map (·.1) = ks.map Sum.inr ∧ ∀ l, H l = none → Q (.ref l) (upd H l (.tup (ks.map V.str)))) := by
  intro pins s σ H xs us Q I r h
  obtain ⟨a, kvs, ks, rfl, ha, hv, q⟩ := h
  rw [Vals.ref1 r]
  obtain ⟨hz, hsys, vs, rel, dof⟩ := dk_rd I.hok ha
  obtain ⟨ep, dat⟩ := dof.dictAt
  have hkeys : vs.map (·.1) = ks.map Sum.inr := (KV.keys rel).symm.trans hv
  have hlv : vs.length = ks.length := by simpa using congrArg List.length hkeys
  have hlk : kvs.length = ks.length := by simpa using congrArg List.length hv
  refine callType_codes (Q₁ := fun obj s1 => s1.TypeIs obj "tuple" ∧ EP X pins σ Q obj s1) F.called_tuple (F.typeCall_tuple_1 _) F.entry_object_init (code_tupD (A := X.A.in1) (I.ok.hd hc) hsys dat (by rw [hlv, ← hlk]; exact hz) fun h' tk acc hk hacc => ⟨⟨_, Heap.get?_push_size _ rfl, rfl⟩, ?_⟩) fun obj s1 h1 =>
    ⟨h1.1, F.args_object_init_2 obj _, object_init_meets F.called_tuple.init.lookup F.called_tuple.made (by decide) X.prog X.w X.A.in1 _ s1 ⟨h1.1, rfl, h1.2⟩⟩
  have hal : acc.toList.length = ks.length := by rw [Array.length_toList, hacc.1, hlv]
  have hvals : Vals (ks.map V.str) acc.toList := by
    have : ∀ (ys : List Str) (us : List Value), us.length = ys.length → (∀ (j : Nat) (v : Value), us[j]? = some v → ∃ y t, ys[j]? = some y ∧ v = Value.str y t) → Vals (ys.map V.str) us := by
      intro ys
      induction ys with
      | nil => intro us hl _; have : us = [] := List.length_eq_zero_iff.mp hl; subst this; exact .nil
      | cons y ys ih =>
        intro us hl hj
        match us, hl with
        | u :: us, hl =>
          obtain ⟨y', t, e1, e2⟩ := hj 0 u rfl
          cases e1
          exact .cons ⟨t, e2⟩ (ih us (by simpa using hl) fun j v e => by simpa using hj (j + 1) v (by simpa using e))
    refine this ks acc.toList hal fun j v e => ?_
    obtain ⟨k, x, e1, e2⟩ := hacc.2 j v (by rw [← Array.getElem?_toList]; exact e)
    have e3 : (vs.map (·.1))[j]? = some k := by rw [List.getElem?_map, e1]; rfl
    rw [hkeys, List.getElem?_map] at e3
    obtain ⟨y, hy, rfl⟩ := Option.map_eq_some_iff.mp e3
    obtain ⟨t, ev⟩ := Value.isStrOf_shape (x := y) (v := v) e2
    exact ⟨y, t, hy, ev⟩
  have I1 : Inv X pins σ H { s with heap := h', toks := tk } := I.kept hk
  refine ⟨.ref h'.objs.size, upd H h'.objs.size (.tup (ks.map V.str)), I1.laid (t' := tk) (fun _ _ e => Heap.get?_push_of_some _ e) (Nat.le_refl _) ⟨by rw [List.length_map, ← hlk]; exact hz, acc.toList, ?_⟩, rfl, q _ (I1.hok.fresh (Nat.le_refl _))⟩
  exact ⟨hvals, _, Heap.get?_push_size _ rfl, rfl, 0, by rw [Array.toArray_toList]⟩
def tup1 : D → Option Vr
  | .lst ds => some (.sh (.tup ds))
  | .tup ds => some (.sh (.tup ds))
  | .dct false es => (keysStr es).map fun ks => .sh (.tup (ks.map .str))
  | _ => none
theorem d_tup1 {a : Expr} {ma : M g.R.S Vr} {p pos : Pos} {k : Nat} (o : XO g k X) (hg : Gl X "tuple") (hm : X.mg "tuple" = none) (ha : DE g X a ma) (he : starEach [a] X.env = (false, eval a X.env) :: starEach [] X.env := by rfl) : DE g X (.Call (.Name "tuple" p) [a] [] pos) (mOp1 tup1 ma) := by
  refine d_t1 (CallR.or call_tuple_of (call_tupD o.calm)) ⟨fun x z e i => ?_, fun F H x dx z Q s p e n => ?_⟩ (by decide +kernel) hg hm ha (by decide) (by decide) he rfl
  · unfold tup1 at e
    split at e
    · cases e; exact fun z => nomatch z
    · cases e; exact fun z => nomatch z
    · obtain ⟨ks, _, rfl⟩ := Option.map_eq_some_iff.mp e
      exact fun z => nomatch z
    · cases e
  · unfold tup1 at e
    split at e
    · cases e
      obtain ⟨a, xs, rfl, e1, r1⟩ := p.lst s
      exact .inl ⟨a, xs, rfl, .inl ⟨SqL.of e1, fun l hl => n.newT s r1 l hl⟩⟩
    · cases e
      obtain ⟨a, xs, rfl, e1, r1⟩ := p.tup s
      refine .inl ⟨a, xs, rfl, .inr ⟨by rw [o.K]; exact e1, ?_⟩⟩
      rcases p with p | ⟨_, _, _, _, p⟩
      · exact n.q s p
      · cases p
    · obtain ⟨ks, h1, rfl⟩ := Option.map_eq_some_iff.mp e
      obtain ⟨a, kvs, rfl, e1, r1⟩ := p.dK s
      exact .inr ⟨a, kvs, ks, rfl, e1, keysStr_eq r1 h1, fun l hl => n.newT s (all_strs _) l hl⟩
    · cases e
end
end RW
set_option maxHeartbeats 4000000
namespace RW
open PySem L2
section
variable {g : G} {X : Cx} {F H : Hp}
/-! ### {k: v, ..} -/
def mPairs {R : Type} : List (M R Vr × M R Vr) → M R (List (Key × D))
  | [] => fun s => some ([], s)
  | (mk, mv) :: r => fun s => (mk s).bind fun p => (esc (soft p.1) p.2).bind fun z => (kOf z.1).bind fun key => (mv z.2).bind fun p2 => (esc (soft p2.1) p2.2).bind fun z2 => (mPairs r z2.2).map fun q => ((key, z2.1) :: q.1, q.2)
def mDisp {R : Type} (ms : List (M R Vr × M R Vr)) : M R Vr := fun s => (mPairs ms s).map fun q => (.tmp (.dct false (q.1.foldl (fun acc kv => putE acc (keyD kv.1) kv.2) [])), q.2)
def trsOf (g : G) (ms : List (M g.R.S Vr × M g.R.S Vr)) : List (TE × TE) := ms.map fun m => (tM g m.1, tM g m.2)
def DP (g : G) (X : Cx) (pos : Pos) (ks : List (Option Expr)) (vs : List Expr) (ms : List (M g.R.S Vr × M g.R.S Vr)) : Prop := PPs X pos ks vs (trsOf g ms)
theorem p_nil {pos : Pos} : DP g X pos [] [] [] := pps_nil
theorem p_cons {pos : Pos} {k v : Expr} {ks : List (Option Expr)} {vs : List Expr} {mk mv : M g.R.S Vr} {ms : List (M g.R.S Vr × M g.R.S Vr)} (hk : DE g X k mk) (hv : DE g X v mv) (hr : DP g X pos ks vs ms) : DP g X pos (some k :: ks) (v :: vs) ((mk, mv) :: ms) := pps_cons hk hv hr
theorem tPairs_of {σ : St} : ∀ {ms : List (M g.R.S Vr × M g.R.S Vr)} {F H : Hp} {s s' : S g.R.S} {ks : List (Key × D)} {Q : List (V × V) → Hp → Prop}, Sim g F s σ H → mPairs ms s = some (ks, s') →
    (∀ F' kvs H', Sim g F' s' σ H' → Keep g F s σ H F' s' σ H' → RepK g F' kvs (ks.map fun kv => (keyD kv.1, kv.2)) → kvs.length = ms.length → Q (kvs.map fun kv => (kV kv.1, kv.2)) H') → tPairs (trsOf g ms) σ H Q
  | [], F, H, s, s', ks, Q, I, e, k => by
    cases e
    exact k F [] H I Keep.refl .nil rfl
  | (mk, mv) :: r, F, H, s, s', ks, Q, I, e, k => by
    unfold mPairs at e
    obtain ⟨⟨r1, s1⟩, e1, e⟩ := Option.bind_eq_some_iff.mp e
    obtain ⟨⟨d2, s2⟩, e2, e⟩ := Option.bind_eq_some_iff.mp e
    obtain ⟨key, ek, e⟩ := Option.bind_eq_some_iff.mp e
    obtain ⟨⟨r3, s3⟩, e3, e⟩ := Option.bind_eq_some_iff.mp e
    obtain ⟨⟨d4, s4⟩, e4, e⟩ := Option.bind_eq_some_iff.mp e
    obtain ⟨⟨ks', s5⟩, e5, e⟩ := Option.map_eq_some_iff.mp e
    cases e
    refine tM_esc I e1 e2 fun F1 y H1 I1 K1 w1 => tM_esc I1 e3 e4 fun F2 z H2 I2 K2 w2 => ?_
    refine tPairs_of I2 e5 fun F3 kvs H3 I3 K3 w3 hl => ?_
    have hy : y = kV key := by
      have hd := kOf_some ek
      subst hd
      cases key with
      | inl i => exact Pk.int (H := H1) (.inl w1)
      | inr x => exact Pk.str (H := H1) (.inl w1)
    subst hy
    exact k F3 ((key, z) :: kvs) H3 I3 ((K1.trans K2 I2).trans K3 I3) (.cons (w2.mono K3.grow) w3) (by simp [hl])
theorem RepK.merge {F : Hp} : ∀ {kvs : List (Key × V)} {ks : List (Key × D)} {av : List (Key × V)} {ad : List (D × D)}, RepK g F kvs (ks.map fun kv => (keyD kv.1, kv.2)) → RepK g F av ad → RepK g F (mergeK av kvs) (ks.foldl (fun acc kv => putE acc (keyD kv.1) kv.2) ad)
  | kvs, [], av, ad, h, q => by cases h; exact q
  | kvs, (k, d) :: ks, av, ad, h, q => by
    have h' : RepK g F kvs ((keyD k, d) :: ks.map fun kv => (keyD kv.1, kv.2)) := h
    generalize hz : ks.map (fun kv => (keyD kv.1, kv.2)) = rest at h'
    generalize hk : keyD k = kd at h'
    cases h' with
    | cons hv ht =>
      rename_i k' _ _
      have e : k' = k := by
        cases k <;> cases k' <;> cases hk <;> rfl
      subst e
      subst hz
      exact RepK.merge (ks := ks) (av := putK av k' _) ht (q.put k' hv)
theorem d_disp {pos : Pos} {ks : List (Option Expr)} {vs : List Expr} {ms : List (M g.R.S Vr × M g.R.S Vr)} {k : Nat} (o : XO g k X) (h : DP g X pos ks vs ms) (hall : ks.all (·.isSome) = true := by rfl) (hl : ks.length = vs.length := by rfl) (h0 : ks ≠ [] := by exact fun z => nomatch z) (h15 : ks.length ≤ 15 := by decide) (hm : ms.length ≤ 15 := by exact Nat.le_of_ble_eq_true rfl) :
    DE g X (.Dict ks vs pos) (mDisp ms) := by
  refine PE.imp (pe_disp h hall hl h0 h15) fun σ H Q ⟨F, s, res, s', I, e, kk⟩ p hp => ?_
  unfold mDisp at e
  obtain ⟨⟨kd, s1⟩, e1, e⟩ := Option.map_eq_some_iff.mp e
  cases e
  have x0 : Ext F H F (upd H p (.dK [])) := Ext.tmp I.sub hp
  have ft : ¬ g.R.foot p := I.nofoot hp
  have no0 : ¬ Own σ s.e p := fun z => by
    obtain ⟨o, e, _⟩ := (I.own_at z).2.2
    rw [hp] at e; cases e
  have m0 : MkD g F s.e σ (upd H p (.dK [])) p [] := ⟨upd_same, I.sub.free hp, no0⟩
  refine tPairs_of (I.ext x0) e1 fun F1 kvs H1 I1 K1 w1 hlen => ?_
  have m1 := m0.keep ft K1
  refine ⟨m1.at_, kvs, rfl, by rw [hlen]; exact hm, ?_⟩
  have K01 := (Keep.ext x0).trans K1 I1
  refine kk F1 (.ref p) _ (I1.grow m1.nf m1.no ft) (K01.grow' hp) ⟨p, _, rfl, hp, m1.nf, ft, m1.no, upd_same, .dK (w1.merge .nil)⟩
/-! ### C(..): a new object -/
abbrev Im (R : Type) := List D → R → Option (List (Str × D) × R)
structure LeftX (g : G) (x : Addr) (F H F' H' : Hp) (r' : g.R.S) : Prop where
  sub : Sub F' H'
  at_ : g.R.At r' H'
  foot : ∀ a, g.R.foot a → F' a = none
  le : Le F F'
  heap : ∀ a o, H a = some o → a ≠ x → ¬ g.R.foot a → H' a = some o
  nof : ∀ a o, H a = some o → NT o → F a = none → a ≠ x → F' a = none
  there : ∀ a o, H a = some o → ∃ o', H' a = some o'
def spI (g : G) (c n : Nat) (mi : Im g.R.S) : Sp := fun vs H Q _ => ∃ x dx vs' F r ds fs r', vs = .ref x :: vs' ∧ H x = some (.ins (g.cls c) dx []) ∧ F x = none ∧ ¬ g.R.foot x ∧ Sub F H ∧ g.R.At r H ∧ (∀ a, g.R.foot a → F a = none) ∧ RepAll g F vs' ds ∧ ds.length = n ∧ mi ds r = some (fs, r') ∧
  ∀ F' o H', LeftX g x F H F' H' r' → H' x = some o → RepO g F' o (.obj c fs) → F' x = none → Q .non H'
def fnIR {R : Type} (c : Nat) (p : Fl × S R) : Option (List (Str × D) × R) := match p.1, (p.2.e[0]? : Option (Option Cell)) with
  | .nx, some (some (Cell.mk (.obj c' fs) true)) => if c' = c then some (fs, p.2.r) else none
  | _, _ => none
def fnI {R : Type} (c nl : Nat) (ms : MS R) : Im R := fun ds r => (ms ⟨some ⟨.obj c [], true⟩ :: ent (nl - 1) ds, r⟩).bind (fnIR c)
theorem spI_len {c n : Nat} {mi : Im g.R.S} {vs : List V} {Q : VK} {E : XK} (h : spI g c n mi vs H Q E) : vs.length = n + 1 := by
  obtain ⟨x, dx, vs', F, r, ds, fs, r', rfl, _, _, _, _, _, _, rep, hl, _⟩ := h
  rw [List.length_cons, rep.length, hl]
theorem body_init {N : List Str} {vs : List V} {ms : MS g.R.S} {Q : VK} {c n : Nat} {E : XK} (hN : 0 < N.length) (h : spI g c n (fnI c N.length ms) vs H Q E) : ∃ x, tSx g x ms { nx := fun _ H' => Q .non H', rt := Q } (L2.start N vs) H := by
  obtain ⟨x, dx, vs', F, r, ds, fs, r', rfl, hx, hF, hft, sub, at_, ft, rep, hl, e, k⟩ := h
  have hlen := rep.length
  obtain ⟨⟨fl, s'⟩, e1, e2⟩ := Option.bind_eq_some_iff.mp e
  have est : L2.start N (.ref x :: vs') = some (.ref x) :: (vs'.map some ++ List.replicate (N.length - (vs'.length + 1)) none) := by
    unfold L2.start
    simp
  have own0 : ∀ a, Own (L2.start N (.ref x :: vs')) (some ⟨.obj c [], true⟩ :: ent (N.length - 1) ds) a → a = x := fun a ⟨i, ci, h1, h2, h3⟩ => by
    rw [est] at h3
    cases i with
    | zero => cases h3; rfl
    | succ i =>
      rw [(ent_get (by simpa using h1)).1] at h2; cases h2
  have I : Sim g F ⟨some ⟨.obj c [], true⟩ :: ent (N.length - 1) ds, r⟩ (L2.start N (.ref x :: vs')) H := by
    refine ⟨sub, at_, ft, ?_, fun i ci ei => ?_, fun i j ci cj a hne e1 e2 o1 o2 _ => ?_⟩
    · rw [est]
      unfold ent
      simp
      omega
    · rw [est]
      cases i with
      | zero =>
        cases ei
        exact ⟨.ref x, rfl, .inr ⟨rfl, x, _, rfl, hF, hft, hx, .ins .nil⟩⟩
      | succ i =>
        obtain ⟨h1, h2⟩ := ent_get (by simpa using ei)
        obtain ⟨v, e3, rv⟩ := rep.get h2
        refine ⟨v, ?_, .inl ⟨h1, rv⟩⟩
        have hi : i < vs'.length := (List.getElem?_eq_some_iff.mp e3).1
        rw [List.getElem?_cons_succ, List.getElem?_append_left (by simpa using hi), List.getElem?_map, e3]
        rfl
    · have hi : i = 0 := by
        cases i with
        | zero => rfl
        | succ i => rw [(ent_get (by simpa using e1)).1] at o1; cases o1
      have hj : j = 0 := by
        cases j with
        | zero => rfl
        | succ i => rw [(ent_get (by simpa using e2)).1] at o2; cases o2
      exact (hne (by rw [hi, hj])).elim
  refine ⟨x, F, _, s', I, by rw [est]; rfl, ?_, ?_⟩
  · unfold fnIR at e2
    split at e2
    · rename_i h1 h2
      have : fl = .nx := h1
      subst this
      exact e1
    · cases e2
  · intro F' σ' H' I' K' h0
    unfold fnIR at e2
    split at e2
    · rename_i h1 h2
      split at e2
      · rename_i hc
        subst hc
        cases e2
        obtain ⟨v, ev, cv⟩ := I'.cell 0 _ h2
        rw [h0] at ev; cases ev
        rcases cv with ⟨z, _⟩ | ⟨_, p, o, ep, b2, b3, b4, b5⟩
        · cases z
        · cases ep
          exact k F' o H' ⟨I'.sub, I'.at_, I'.foot, K'.grow, fun a o h ne nf => K'.heap a o h (fun z => ne (own0 a z)) nf, fun a o h nt q ne => K'.nof a o h nt q fun z => ne (own0 a z), K'.there⟩ b4 b5 b2
      · cases e2
    · cases e2
structure FuI (g : G) (P : Program) (w : World) (mg : Str → Option Value) (base : Heap) (k : Nat) (ps : List Str) (c : Nat) (mi : Im g.R.S) (f : Addr) : Prop where
  ex : ∃ fd n, ps.length = n + 1 ∧ FnG P w g.K mg base k f fd ps (spI g c n mi) ∧ Binds g.K fd ps []
theorem fui_of {P : Program} {w : World} {mg : Str → Option Value} {base : Heap} {k n c : Nat} {x qual : Str} {params : Arguments} {body : List Stmt} {scope : Scope} {dvs : List V} {kws : List (Str × V)} {N ps : List Str} {ms : MS g.R.S} {f : Addr} (sy : ∃ u, base.get? sysModules = some u) (F : ∃ fd, FunD g.K x qual params body scope dvs kws f fd) (S : FnScope N ps scope)
    (bi : ∀ fd, FunD g.K x qual params body scope dvs kws f fd → Binds g.K fd ps []) (hn : ps.length = n + 1) (hN : 0 < N.length)
    (hb : ∀ (cdv : Value) (A : Around) (outer : List Env) (s : Shared) (H : Hp), XO g k (cxOf CX0 P w g.K mg base N qual scope f cdv A outer s H E0).nox → DBx g (cxOf CX0 P w g.K mg base N qual scope f cdv A outer s H E0).nox body ms) :
    FuI g P w mg base (k + 1) ps c (fnI c N.length ms) f := by
  obtain ⟨fd, F⟩ := F
  refine ⟨fd, n, hn, FunD.okG F S (fun _ _ _ _ h => by rw [spI_len h, hn]) fun cdv A outer s H vs Q hr gd hsp => ?_, bi fd F⟩
  obtain ⟨x, hx⟩ := body_init hN hsp
  exact ⟨tSx g x ms, (hb cdv A outer s H ⟨rfl, hr, rfl, S.nd, deeper_guards gd, sy⟩ x).nox, hx⟩
def mMake {R : Type} (c : Nat) (mi : Im R) (ma : M R (List Vr)) : M R Vr := fun s => (ma s).bind fun p => (escAll p.1 p.2).bind fun z => (mi z.1 z.2.r).map fun q => (.tmp (.obj c q.1), { z.2 with r := q.2 })
end
end RW
namespace RW
open PySem L2 PyProof.Rows
/-! ### repr -/
mutual
def toPy : D → Option PyData
  | .non => some .none
  | .bl b => some (.bool b)
  | .int i => some (.int i)
  | .str x => some (.str x)
  | .lst ds => (toPyAll ds).map .list
  | .tup ds => (toPyAll ds).map .tuple
  | .dct false es => (toPyKv es).map .dict
  | .dct true _ => none
  | .obj _ _ => none
  | .res => none
  | .scr _ => none
def toPyAll : List D → Option (List PyData)
  | [] => some []
  | d :: ds => (toPy d).bind fun p => (toPyAll ds).map fun q => p :: q
def toPyKv : List (D × D) → Option (List (PyData × PyData))
  | [] => some []
  | e :: es => (toPy e.1).bind fun k => (toPy e.2).bind fun v => (toPyKv es).map fun q => (k, v) :: q
end
section
variable {g : G} {X : Cx} {F H : Hp} {pins : List (Addr × Obj)} {σ : L2.St} {s : Shared}
theorem tracked_ne (I : L2.Inv X pins σ H s) (sy : ∃ u, X.base.get? sysModules = some u) {a : Addr} {o : HO} (h : H a = some o) : a ≠ sysModules := fun z => by
  obtain ⟨u, e⟩ := sy
  rw [z, (I.bs _ _ e).2] at h; cases h
theorem keys_read {h : Heap} {P : Program} {w : World} {F : Hp} : ∀ {es : List DictEntry} {kvs : List (Key × V)} {us : List (Key × Value)} {ds : List (D × D)} {ps : List (PyData × PyData)}, RepK g F kvs ds → Pairs (mixKind P w) es us → KV kvs us → toPyKv ds = some ps → ReadsAll h (es.map (·.key)) (ps.map (·.1)) []
  | es, _, us, _, ps, .nil, hp, hv, e => by
    cases hv
    cases hp
    cases e
    exact .nil
  | es, _, us, _, ps, .cons (k := k) (d := d) hr tr, hp, hv, e => by
    cases hv with
    | cons hkv tv =>
      cases hp with
      | cons hk hv t =>
        rename_i en _
        unfold toPyKv at e
        obtain ⟨pk, e1, e⟩ := Option.bind_eq_some_iff.mp e
        obtain ⟨pv, e2, e⟩ := Option.bind_eq_some_iff.mp e
        obtain ⟨q, e3, e⟩ := Option.map_eq_some_iff.mp e
        cases e
        have rest := keys_read (h := h) tr t tv e3
        have hk' : keyIs k en.key = true := by have z := hkv.1; dsimp only at z; rw [z]; exact hk
        rcases keyIs_shape hk' with ⟨i, t, rfl, ev⟩ | ⟨x, t, rfl, ev⟩
        · cases e1
          rw [List.map_cons, List.map_cons, ev]
          exact .cons (as := []) (.int i t) rest
        · cases e1
          rw [List.map_cons, List.map_cons, ev]
          exact .cons (as := []) (.str x t) rest
variable (I : L2.Inv X pins σ H s) (hS : Sub F H) (hK : X.K = g.K) (sy : ∃ u, X.base.get? sysModules = some u)
include I hS hK sy
mutual
theorem reads_rep : ∀ {v : V} {d : D}, Rep g F v d → ∀ {u : Value} {p : PyData}, RelV v u → toPy d = some p → ∃ as, Reads s.heap u p as ∧ sysModules ∉ as
  | _, _, .non, u, p, r, e => by cases e; cases r; exact ⟨_, .none, by simp⟩
  | _, _, .bl b, u, p, r, e => by cases e; cases r; exact ⟨_, .bool b, by simp⟩
  | _, _, .int i, u, p, r, e => by cases e; obtain ⟨t, rfl⟩ := r; exact ⟨_, .int i t, by simp⟩
  | _, _, .str x, u, p, r, e => by cases e; obtain ⟨t, rfl⟩ := r; exact ⟨_, .str x t, by simp⟩
  | _, _, .ref (a := a) h o, u, p, r, e => by
    obtain rfl : u = Value.ref a := r
    rcases hS _ _ h with z | ⟨_, ob, z⟩
    · exact reads_obj o z (I.hok _ _ z) e
    · exact reads_obj o z (I.hok _ _ z).2 e
  | _, _, .tup (a := a) h o, u, p, r, e => by
    obtain rfl : u = Value.ref a := r
    rename_i xs ds
    have z : H a = some (.tup xs) := by
      rcases hS _ _ h with z | ⟨z, _⟩
      · exact z
      · rcases z with ⟨_, z⟩ | ⟨_, z⟩ <;> cases z
    obtain ⟨hl, its, rv, ob, e1, e2, n, e3⟩ := I.hok _ _ z
    unfold toPy at e
    obtain ⟨q, e4, e⟩ := Option.map_eq_some_iff.mp e
    cases e
    obtain ⟨as, ra, na⟩ := reads_all o rv e4
    exact ⟨as, .tuple e1 e2 e3 (by simpa using ra), na⟩
  | _, _, .kt (a := a) h o _, u, p, r, e => by
    obtain rfl : u = Value.ref a := r
    obtain ⟨ob, its, n, e1, e2, e3, hl, rv⟩ := h
    unfold toPy at e
    obtain ⟨q, e4, e⟩ := Option.map_eq_some_iff.mp e
    cases e
    obtain ⟨as, ra, na⟩ := reads_all o rv e4
    rw [← hK] at e1
    exact ⟨as, .tuple (I.kIn _ _ e1) e2 e3 ra, na⟩
  | _, _, .res, u, p, r, e => by cases e
  | _, _, .kscr _, u, p, r, e => by cases e
theorem reads_obj : ∀ {o : HO} {d : D}, RepO g F o d → ∀ {a : Addr} {o' : HO} {p : PyData}, H a = some o' → ObjOk X.prog X.w H s.heap a o → toPy d = some p → ∃ as, Reads s.heap (.ref a) p as ∧ sysModules ∉ as
  | _, _, .lst o, a, o', p, z, ok, e => by
    obtain ⟨hl, its, n, rv, e1⟩ := ok
    unfold toPy at e
    obtain ⟨q, e4, e⟩ := Option.map_eq_some_iff.mp e
    cases e
    obtain ⟨as, ra, na⟩ := reads_all o rv e4
    exact ⟨a :: as, .list e1 rfl rfl (by simpa using ra), fun y => by
      rcases List.mem_cons.mp y with y | y
      · exact tracked_ne I sy z y.symm
      · exact na y⟩
  | _, _, .dK o, a, o', p, z, ok, e => by
    obtain ⟨hl, hsys, vs, rv, ob, es, ep, e1, ex, e2, kk, pr, nd⟩ := ok
    unfold toPy at e
    obtain ⟨q, e4, e⟩ := Option.map_eq_some_iff.mp e
    cases e
    have hk := keys_read (h := s.heap) o pr rv e4
    obtain ⟨as, ra, na⟩ := reads_kv o pr rv e4
    refine ⟨a :: [] ++ as, .dict e1 ex.1 e2 hk ra, fun y => ?_⟩
    rcases List.mem_cons.mp (show sysModules ∈ a :: as from y) with y | y
    · exact tracked_ne I sy z y.symm
    · exact na y
  | _, _, .dT _, a, o', p, z, ok, e => by unfold toPy at e; cases e
  | _, _, .ins _, a, o', p, z, ok, e => by unfold toPy at e; cases e
  | _, _, .scr, a, o', p, z, ok, e => by unfold toPy at e; cases e
theorem reads_all : ∀ {vs : List V} {ds : List D}, RepAll g F vs ds → ∀ {us : List Value} {ps : List PyData}, Vals vs us → toPyAll ds = some ps → ∃ as, ReadsAll s.heap us ps as ∧ sysModules ∉ as
  | _, _, .nil, us, ps, r, e => by cases e; cases r; exact ⟨[], .nil, by simp⟩
  | _, _, .cons h t, us, ps, r, e => by
    cases r with
    | cons rv rt =>
      unfold toPyAll at e
      obtain ⟨p, e1, e⟩ := Option.bind_eq_some_iff.mp e
      obtain ⟨q, e2, e⟩ := Option.map_eq_some_iff.mp e
      cases e
      obtain ⟨as, ra, na⟩ := reads_rep h rv e1
      obtain ⟨bs, rb, nb⟩ := reads_all t rt e2
      exact ⟨as ++ bs, .cons ra rb, fun y => (List.mem_append.mp y).elim na nb⟩
theorem reads_kv : ∀ {kvs : List (Key × V)} {ds : List (D × D)}, RepK g F kvs ds → ∀ {es : List DictEntry} {us : List (Key × Value)} {ps : List (PyData × PyData)}, Pairs (mixKind X.prog X.w) es us → KV kvs us → toPyKv ds = some ps → ∃ as, ReadsAll s.heap (es.map (·.val)) (ps.map (·.2)) as ∧ sysModules ∉ as
  | _, _, .nil, es, us, ps, pr, r, e => by
    cases r
    cases pr
    cases e
    exact ⟨[], .nil, by simp⟩
  | _, _, .cons h t, es, us, ps, pr, r, e => by
    cases r with
    | cons rv rt =>
      cases pr with
      | cons hk hv tp =>
        unfold toPyKv at e
        obtain ⟨p, e1, e⟩ := Option.bind_eq_some_iff.mp e
        obtain ⟨pv, e2, e⟩ := Option.bind_eq_some_iff.mp e
        obtain ⟨q, e3, e⟩ := Option.map_eq_some_iff.mp e
        cases e
        obtain ⟨as, ra, na⟩ := reads_rep h rv.2 e2
        obtain ⟨bs, rb, nb⟩ := reads_kv t tp rt e3
        rw [List.map_cons, List.map_cons, hv]
        exact ⟨as ++ bs, .cons ra rb, fun y => (List.mem_append.mp y).elim na nb⟩
end
end
end RW
namespace RW
open PySem L2
/-! ### the thing that is drawn from -/
def R0 : Rsc where
  S := Unit
  ad := 0
  foot := fun _ => False
  At := fun _ _ => True
  stay := fun _ _ => trivial
  there := fun _ h => h.elim
structure Dr where
  great : List Int
  rest : Int
  cells : List Int
  turn : Int
def drKvs (ga ca : Addr) (r : Dr) : List (Key × V) := [(.inr "great", .ref ga), (.inr "rest", .int r.rest), (.inr "cells", .ref ca), (.inr "turn", .int r.turn)]
def DrAt (ad ga ca : Addr) (r : Dr) (H : Hp) : Prop := H ad = some (.dK (drKvs ga ca r)) ∧ H ga = some (.lst (r.great.map V.int)) ∧ H ca = some (.lst (r.cells.map V.int))
def drawR (ad ga ca : Addr) : Rsc where
  S := Dr
  ad := ad
  foot := fun a => a = ad ∨ a = ga ∨ a = ca
  At := DrAt ad ga ca
  stay := fun ⟨h1, h2, h3⟩ h => ⟨by rw [h _ (.inl rfl)]; exact h1, by rw [h _ (.inr (.inl rfl))]; exact h2, by rw [h _ (.inr (.inr rfl))]; exact h3⟩
  there := fun ⟨h1, h2, h3⟩ h => by
    rcases h with rfl | rfl | rfl
    · exact ⟨_, h1, fun _ z => nomatch z⟩
    · exact ⟨_, h2, fun _ z => nomatch z⟩
    · exact ⟨_, h3, fun _ z => nomatch z⟩
def gD (K : PySem.W.Frag) (cls : Nat → Addr) (ad ga ca : Addr) : G := ⟨K, cls, drawR ad ga ca⟩
def g0 (K : PySem.W.Frag) (cls : Nat → Addr) : G := ⟨K, cls, R0⟩
theorem Sim.res {g : G} {F : Hp} {s : S g.R.S} {σ : St} {H H' : Hp} {r' : g.R.S} (I : Sim g F s σ H) (h : ∀ a, ¬ g.R.foot a → H' a = H a) (at_ : g.R.At r' H') : Sim g F { s with r := r' } σ H' ∧ Keep g F s σ H F { s with r := r' } σ H' := by
  refine ⟨⟨fun a o e => ?_, at_, I.foot, I.len, fun i c e => ?_, I.apart⟩, ⟨fun a o e _ nf => by rw [h a nf]; exact e, Le.refl _, fun _ _ _ _ z _ => z, fun _ z => .inl z, fun a o e => ?_⟩⟩
  · have nf : ¬ g.R.foot a := fun z => by rw [I.foot a z] at e; cases e
    rw [h a nf]; exact I.sub a o e
  · obtain ⟨v, e1, q⟩ := I.cell i c e
    refine ⟨v, e1, ?_⟩
    rcases q with q | ⟨a, p, o, b1, b2, b3, b4, b5⟩
    · exact .inl q
    · exact .inr ⟨a, p, o, b1, b2, b3, by rw [h p b3]; exact b4, b5⟩
  · by_cases nf : g.R.foot a
    · obtain ⟨o', e', _⟩ := g.R.there at_ nf
      exact ⟨o', e'⟩
    · exact ⟨o, by rw [h a nf]; exact e⟩
section
variable {K : PySem.W.Frag} {cls : Nat → Addr} {ad ga ca : Addr} {X : Cx}
theorem Sim.isRes {g : G} {F : Hp} {s : S g.R.S} {σ : St} {H : Hp} (I : Sim g F s σ H) {b : Bool} {i : Nat} (e : s.e[i]? = some (some ⟨.res, b⟩)) : σ[i]? = some (some (.ref g.R.ad)) := by
  obtain ⟨v, e1, q⟩ := I.cell i _ e
  rw [e1]
  rcases q with ⟨_, q⟩ | ⟨_, p, o, _, _, _, _, q⟩
  · cases q with
    | res => rfl
    | ref _ z => cases z
  · cases q
/-- is slot i the thing that is drawn from? -/
def isRes {R : Type} (i : Nat) (s : S R) : Bool := match s.e[i]? with
  | some (some ⟨.res, _⟩) => true
  | _ => false
theorem isRes_e {R : Type} {i : Nat} {s : S R} (h : isRes i s = true) : ∃ b, s.e[i]? = some (some ⟨.res, b⟩) := by
  unfold isRes at h
  split at h
  · exact ⟨_, by assumption⟩
  · cases h
/-- d["..."], an int -/
def mRG (i : Nat) (f : Dr → Int) : M Dr Vr := fun s => if isRes i s then some (.sh (.int (f s.r)), s) else none
theorem r_get {i : Nat} {x k : Str} {f : Dr → Int} {np cp pos : Pos} {lv : Nat} {j} (o : XO (gD K cls ad ga ca) lv X) (hv : PE X (.Name x np) (tVar i)) (hf : ∀ r, valV (drKvs ga ca r) (.inr k) = some (.int (f r))) :
    DE (gD K cls ad ga ca) X (.Subscript (.Name x np) (.Constant (.str k) j cp) pos) (mRG i f) := by
  refine PE.imp (pe_dget o.hu hv pe_str (fun _ _ => rfl)) fun σ H Q ⟨F, s, res, s', I, e, kk⟩ => ?_
  unfold mRG at e
  split at e
  · rename_i h
    cases e
    obtain ⟨b, hb⟩ := isRes_e h
    refine ⟨_, I.isRes hb, ad, .int (f s.r), rfl, .inl ⟨_, .inr k, .inl I.at_.1, rfl, (hf _).symm⟩, kk F _ H I Keep.refl (.int _)⟩
  · cases e
/-- d["..."] = e, an int -/
def mRP (i : Nat) (f : Dr → Int → Dr) (me : M Dr Vr) : MS Dr := fun s => (me s).bind fun p => match p.1 with
  | .sh (.int n) => if isRes i p.2 then some (.nx, { p.2 with r := f p.2.r n }) else none
  | _ => none
theorem r_put {i : Nat} {x k : Str} {f : Dr → Int → Dr} {me : M Dr Vr} {e : Expr} {np cp tpos pos : Pos} {lv : Nat} {j} (o : XO (gD K cls ad ga ca) lv X) (hv : PE X (.Name x np) (tVar i)) (he : DE (gD K cls ad ga ca) X e me)
    (hf : ∀ r n, putK (drKvs ga ca r) (.inr k) (.int n) = drKvs ga ca (f r n) ∧ (f r n).great = r.great ∧ (f r n).cells = r.cells)
    (hs : swapsWith e (some (.Subscript (.Name x np) (.Constant (.str k) j cp) tpos)) pos.line X.env = pure false := by rfl) :
    DS (gD K cls ad ga ca) X (.Assign [.Subscript (.Name x np) (.Constant (.str k) j cp) tpos] e pos) (mRP i f me) := by
  refine PS.imp (ps_dput o.hu hv pe_str he hs) fun E σ H ⟨F, s, fl, s', I, e, ou⟩ => ?_
  unfold mRP at e
  obtain ⟨p, e1, e⟩ := Option.bind_eq_some_iff.mp e
  split at e
  · rename_i n hp
    split at e
    · rename_i h
      cases e
      obtain ⟨b, hb⟩ := isRes_e h
      refine ⟨F, s, p.1, p.2, I, e1, fun F1 v H1 I1 K1 r1 => ?_⟩
      rw [hp] at r1
      have r1 : Rep (gD K cls ad ga ca) F1 v (.int n) := r1
      have hvn : v = .int n := by
        cases r1 with
        | int => rfl
        | ref _ z => cases z
      subst hvn
      obtain ⟨a1, a2, a3⟩ := I1.at_
      refine ⟨_, I1.isRes hb, ad, _, rfl, .inl ⟨_, .inr k, a1, rfl, (by show 4 < sizeLine; decide), rfl⟩, ?_⟩
      have n1 : ga ≠ ad := ne_of a2 a1 (fun z => nomatch z)
      have n2 : ca ≠ ad := ne_of a3 a1 (fun z => nomatch z)
      obtain ⟨f1, f2, f3⟩ := hf p.2.r n
      obtain ⟨I2, K2⟩ := I1.res (H' := upd H1 ad (.dK (putK (drKvs ga ca p.2.r) (.inr k) (.int n)))) (r' := f p.2.r n) (fun a na => upd_ne fun z => na (.inl z))
        ⟨by rw [upd_same, f1], by rw [upd_ne n1, f2]; exact a2, by rw [upd_ne n2, f3]; exact a3⟩
      exact ou F1 σ _ I2 (K1.trans K2 I2)
    · cases e
  · cases e
/-- d["great"] != [] -/
def mRB (i : Nat) (f : Dr → Bool) : M Dr Vr := fun s => if isRes i s then some (.sh (.bl (f s.r)), s) else none
theorem repAll_ints {g : G} {F : Hp} : ∀ ns : List Int, RepAll g F (ns.map V.int) (ns.map D.int)
  | [] => .nil
  | _ :: ns => .cons (.int _) (repAll_ints ns)
theorem deq_nil (ns : List Int) : deqF 60 (.lst (ns.map D.int)) (.lst []) = some (decide (ns = [])) := by
  cases ns with
  | nil => rfl
  | cons n ns => simp [deqF, toV]
theorem r_great {i : Nat} {x : Str} {np cp pos lp cpos : Pos} {lv : Nat} {j} (o : XO (gD K cls ad ga ca) lv X) (hv : PE X (.Name x np) (tVar i)) :
    DT (gD K cls ad ga ca) X (.Compare (.Subscript (.Name x np) (.Constant (.str "great") j cp) pos) [.NotEq] [.List [] lp] cpos) (mRB i fun r => !decide (r.great = [])) := by
  refine PT.imp (pt_cmpR (op_neL o) (pe_dget o.hu hv pe_str (fun _ _ => rfl)) (pe_lst pa_nil) rfl) fun σ H Q ⟨F, s, b, s', I, e, kk⟩ => ?_
  unfold mRB at e
  split at e
  · rename_i h
    cases e
    obtain ⟨b, hb⟩ := isRes_e h
    obtain ⟨a1, a2, a3⟩ := I.at_
    refine ⟨_, I.isRes hb, ad, .ref ga, rfl, .inl ⟨_, .inr "great", .inl a1, rfl, rfl⟩, (by show 0 ≤ sizeLine; exact Nat.zero_le _), fun p hp => ?_⟩
    have x0 : Ext F H F (upd H p (.lst [])) := Ext.tmp I.sub hp
    refine ⟨F, .lst (s.r.great.map D.int), .lst [], decide (s.r.great = []), x0.sub, .inr ⟨ga, _, rfl, x0.heap _ _ a2, .lst (repAll_ints _)⟩, .inr ⟨p, _, rfl, upd_same, .lst .nil⟩, deq_nil _, _, rfl, ?_⟩
    exact kk F _ (I.ext x0) (Keep.ext x0)
  · cases e
/-- d["great"].pop(0) -/
def mRPop (same : Bool) (i : Nat) : M Dr Vr := fun s => if isRes i s then (match s.r.great with
  | n :: ns => some (.sh (.int n), { s with r := { s.r with great := ns, cells := if same then ns else s.r.cells } })
  | [] => none) else none
theorem r_pop {i : Nat} {x : Str} {np cp pos apos ip cpos : Pos} {lv : Nat} {j j'} (o : XO (gD K cls ad ga ca) lv X) (hv : PE X (.Name x np) (tVar i))
    (hbase : attributeBase (.Subscript (.Name x np) (.Constant (.str "great") j cp) pos) "pop" X.env (eval (.Subscript (.Name x np) (.Constant (.str "great") j cp) pos) X.env) = eval (.Subscript (.Name x np) (.Constant (.str "great") j cp) pos) X.env := by rfl)
    (hline : (apos.endLine == cpos.line) = true := by rfl) :
    DE (gD K cls ad ga ca) X (.Call (.Attribute (.Subscript (.Name x np) (.Constant (.str "great") j cp) pos) "pop" apos) [.Constant (.int 0) j' ip] [] cpos) (mRPop (decide (ga = ca)) i) := by
  refine PE.imp (pe_bm PySem.F.plainAttrs_list PySem.F.slot_list_pop PySem.F.type_list_pop mt_popAt (pe_dget o.hu hv pe_str (fun _ _ => rfl)) (pa_cons pe_int pa_nil) (hbase := hbase) (hline := hline)) fun σ H Q ⟨F, s, res, s', I, e, kk⟩ => ?_
  unfold mRPop at e
  split at e
  · rename_i h
    split at e
    · rename_i n ns hg
      cases e
      obtain ⟨b, hb⟩ := isRes_e h
      obtain ⟨a1, a2, a3⟩ := I.at_
      have a2' : H ga = some (.lst (s.r.great.map V.int)) := a2
      rw [hg] at a2'
      refine ⟨_, I.isRes hb, ad, .ref ga, rfl, .inl ⟨_, .inr "great", .inl a1, rfl, rfl⟩, .inl ⟨rfl, _, SqL.of a2⟩, ?_⟩
      refine ⟨ga, (n :: ns).map V.int, 0, 0, .int n, rfl, rfl, a2', by decide, by decide, ?_, rfl, ?_⟩
      · simp [seqIndex?]
      · have n1 : ad ≠ ga := ne_of a1 a2 (fun z => nomatch z)
        obtain ⟨I2, K2⟩ := I.res (H' := upd H ga (.lst (((n :: ns).map V.int).eraseIdx 0))) (r' := { s.r with great := ns, cells := if decide (ga = ca) then ns else s.r.cells }) (fun a na => upd_ne fun z => na (.inr (.inl z)))
          ⟨by rw [upd_ne n1]; exact a1, upd_same, by
            by_cases z : ga = ca
            · rw [if_pos (decide_eq_true z), ← z]; exact upd_same
            · rw [if_neg (by simpa using z), upd_ne (Ne.symm z)]; exact a3⟩
        exact kk F _ _ I2 K2 (.int _)
    · cases e
  · cases e
/-! ### the thing drawn from, frozen for a while -/
def drD (r : Dr) : D := .dct false [(.str "great", .lst (r.great.map .int)), (.str "rest", .int r.rest), (.str "cells", .lst (r.cells.map .int)), (.str "turn", .int r.turn)]
def frzC (r : Dr) : Option Cell → Option Cell
  | some ⟨.res, _⟩ => some ⟨drD r, false⟩
  | some ⟨.int n, false⟩ => some ⟨.int n, false⟩
  | _ => none
def mFrz (m : MS Unit) : MS Dr := fun s => match m ⟨s.e.map (frzC s.r), ()⟩ with
  | some (.rt (.sh (.int n)), s') => some (.rt (.sh (.int n)), ⟨s'.e.map fun _ => none, s.r⟩)
  | _ => none
theorem b_frz {sts : List Stmt} {m : MS Unit} (h : DB (g0 K cls) X sts m) : DB (gD K cls ad ga ca) X sts (mFrz m) := by
  refine PSs.imp h fun E σ H ⟨F, s, fl, s', I, e, ou⟩ => ?_
  unfold mFrz at e
  split at e
  · rename_i n s1 em
    cases e
    obtain ⟨a1, a2, a3⟩ := I.at_
    let F0 : Hp := fun a => if a = ad ∨ a = ga ∨ a = ca then H a else none
    have f1 : F0 ad = some (.dK (drKvs ga ca s.r)) := by show (if _ then _ else _) = _; rw [if_pos (.inl rfl)]; exact a1
    have f2 : F0 ga = some (.lst (s.r.great.map V.int)) := by show (if _ then _ else _) = _; rw [if_pos (.inr (.inl rfl))]; exact a2
    have f3 : F0 ca = some (.lst (s.r.cells.map V.int)) := by show (if _ then _ else _) = _; rw [if_pos (.inr (.inr rfl))]; exact a3
    have sub0 : Sub F0 H := fun a o e => by
      have e : (if a = ad ∨ a = ga ∨ a = ca then H a else none) = some o := e
      split at e
      · exact .inl e
      · cases e
    have rD : Rep (g0 K cls) F0 (.ref ad) (drD s.r) := .ref f1 (.dK (.cons (k := .inr "great") (.ref f2 (.lst (repAll_ints _))) (.cons (k := .inr "rest") (.int _) (.cons (k := .inr "cells") (.ref f3 (.lst (repAll_ints _))) (.cons (k := .inr "turn") (.int _) .nil)))))
    have cells : ∀ (i : Nat) (c : Cell), (s.e.map (frzC s.r))[i]? = some (some c) → c.own = false ∧ ∃ v, σ[i]? = some (some v) ∧ Rep (g0 K cls) F0 v c.d := fun i c ec => by
      rw [List.getElem?_map] at ec
      cases q : s.e[i]? with
      | none => rw [q] at ec; cases ec
      | some oc =>
        rw [q] at ec
        have ec : frzC s.r oc = some c := Option.some.inj ec
        unfold frzC at ec
        split at ec
        · cases ec
          exact ⟨rfl, _, I.isRes q, rD⟩
        · cases ec
          obtain ⟨v, e1, z⟩ := I.cell i _ q
          refine ⟨rfl, v, e1, ?_⟩
          rcases z with ⟨_, z⟩ | ⟨z, _⟩
          · cases z with
            | int => exact .int _
            | ref _ z => cases z
          · cases z
        · cases ec
    have no0 : ∀ a, ¬ Own σ (s.e.map (frzC s.r)) a := fun a ⟨i, c, h1, h2, _⟩ => by
      rw [(cells i c h1).1] at h2; cases h2
    have I0 : Sim (g0 K cls) F0 ⟨s.e.map (frzC s.r), ()⟩ σ H := by
      refine ⟨sub0, trivial, fun _ z => z.elim, by rw [List.length_map]; exact I.len, fun i c ec => ?_, fun i j ci cj a _ e1 _ o1 _ _ => ?_⟩
      · obtain ⟨h1, v, h2, h3⟩ := cells i c ec
        exact ⟨v, h2, .inl ⟨h1, h3⟩⟩
      · rw [(cells i ci e1).1] at o1; cases o1
    refine ⟨F0, _, _, s1, I0, em, fun F' σ' v H' I' K' r' => ?_⟩
    have keep : ∀ a o, H a = some o → H' a = some o := fun a o e => K'.heap a o e (no0 a) (fun z => z)
    have r' : Rep (g0 K cls) F' v (.int n) := r'
    have hv : v = .int n := by
      cases r' with
      | int => rfl
      | ref _ z => cases z
    subst hv
    have nc : ∀ (i : Nat) (c : Cell), (s1.e.map fun _ => (none : Option Cell))[i]? ≠ some (some c) := fun i c z => by
      rw [List.getElem?_map] at z
      cases q : s1.e[i]? with
      | none => rw [q] at z; cases z
      | some _ => rw [q] at z; cases z
    refine ou F σ' (.int n) H' ⟨fun a o e => ?_, ?_, I.foot, by rw [List.length_map]; exact I'.len, fun i c z => (nc i c z).elim, fun i j ci cj a _ e1 _ _ _ _ => (nc i ci e1).elim⟩ ⟨fun a o e _ _ => keep a o e, Le.refl _, fun _ _ _ _ z _ => z, fun a ⟨i, c, z, _⟩ => (nc i c z).elim, fun a o e => ⟨o, keep a o e⟩⟩ (.int _)
    · rcases I.sub a o e with z | ⟨z, ob, z2⟩
      · exact .inl (keep a o z)
      · exact .inr ⟨z, ob, keep a _ z2⟩
    · exact ⟨keep _ _ a1, keep _ _ a2, keep _ _ a3⟩
  · cases e
end
end RW
namespace RW
open PySem L2 PyProof.Rows
/-! ### the law: the first statement makes what is drawn from -/
theorem ints_of {g : G} {F : Hp} : ∀ {xs : List V} {ns : List Int}, RepAll g F xs (ns.map D.int) → xs = ns.map V.int
  | [], [], _ => rfl
  | x :: xs, n :: ns, h => by
    cases h with
    | cons h t =>
      have e : x = .int n := by
        cases h with
        | int => rfl
        | ref _ z => cases z
      rw [e, ints_of t]; rfl
theorem Rep.ints {g : G} {F : Hp} {v : V} {ns : List Int} (h : Rep g F v (.lst (ns.map D.int))) : ∃ a, v = .ref a ∧ F a = some (.lst (ns.map V.int)) := by
  obtain ⟨a, xs, rfl, e, r⟩ := h.lstIn
  rw [ints_of r] at e
  exact ⟨a, rfl, e⟩
theorem RepK.inv {g : G} {F : Hp} {kvs : List (Key × V)} {e : D × D} {es : List (D × D)} (h : RepK g F kvs (e :: es)) : ∃ k v kvs', kvs = (k, v) :: kvs' ∧ e.1 = keyD k ∧ Rep g F v e.2 ∧ RepK g F kvs' es := by
  cases h with
  | cons h t => exact ⟨_, _, _, rfl, rfl, h, t⟩
theorem keyD_str {k : Key} {x : Str} (z : D.str x = keyD k) : k = .inr x := by
  cases k with
  | inl i => cases z
  | inr y => cases z; rfl
theorem dr_of {g : G} {F : Hp} {o : HO} {r : Dr} (h : RepO g F o (drD r)) : ∃ ga ca, o = .dK (drKvs ga ca r) ∧ F ga = some (.lst (r.great.map V.int)) ∧ F ca = some (.lst (r.cells.map V.int)) := by
  unfold drD at h
  cases h with
  | dK h =>
    obtain ⟨k1, v1, l1, rfl, q1, h1, h⟩ := h.inv
    obtain ⟨k2, v2, l2, rfl, q2, h2, h⟩ := h.inv
    obtain ⟨k3, v3, l3, rfl, q3, h3, h⟩ := h.inv
    obtain ⟨k4, v4, l4, rfl, q4, h4, h⟩ := h.inv
    cases h
    have z1 := keyD_str q1
    have z2 := keyD_str q2
    have z3 := keyD_str q3
    have z4 := keyD_str q4
    subst z1 z2 z3 z4
    obtain ⟨ga, rfl, f1⟩ := Rep.ints h1
    obtain ⟨ca, rfl, f3⟩ := Rep.ints h3
    have w2 : v2 = .int r.rest := by
      cases h2 with
      | int => rfl
      | ref _ z => cases z
    have w4 : v4 = .int r.turn := by
      cases h4 with
      | int => rfl
      | ref _ z => cases z
    subst w2 w4
    exact ⟨ga, ca, rfl, f1, f3⟩
/-- the script alone, as data -/
def scrF (v : V) (H : Hp) : Hp := fun b => if v = .ref b then (match H b with
  | some (.frz o u) => some (.frz o u)
  | _ => none) else none
theorem scr_rep {g g' : G} (hK : g'.K = g.K) {F H : Hp} {v : V} {ns : List Int} (hS : Sub F H) (h : Rep g F v (.scr ns)) : Rep g' (scrF v H) v (.scr ns) := by
  cases h with
  | kscr h => exact .kscr (by rw [hK]; exact h)
  | ref e h =>
    cases h with
    | scr =>
      rename_i a o
      have e : H a = some (.frz o (.lst (ns.map V.int))) := by
        rcases hS _ _ e with z | ⟨z, _⟩
        · exact z
        · rcases z with ⟨_, z⟩ | ⟨_, z⟩ <;> cases z
      refine .ref (o := .frz o (.lst (ns.map V.int))) ?_ .scr
      unfold scrF
      rw [if_pos rfl, e]
def lawE (nl : Nat) (ns : List Int) (d : Option Cell) : List (Option Cell) := some ⟨.scr ns, false⟩ :: d :: List.replicate nl none
section
variable {K : PySem.W.Frag} {cls : Nat → Addr} {X : Cx}
theorem law_rest {nl : Nat} {ns : List Int} {r : Dr} {m2 : Bool → MS Dr} {F : Hp} {σ : L2.St} {H : Hp} {E : Ends} (I : Sim (g0 K cls) F ⟨lawE nl ns (some ⟨drD r, true⟩), ()⟩ σ H)
    (h2 : ∀ b, ∃ s', m2 b ⟨lawE nl ns (some ⟨.res, false⟩), r⟩ = some (.rt (.sh (.bl true)), s')) (ok : ∀ H', E.rt (.bl true) H') : ∃ ad ga ca, tS (gD K cls ad ga ca) (m2 (decide (ga = ca))) E σ H := by
  obtain ⟨v0, e0, q0⟩ := I.cell 0 ⟨.scr ns, false⟩ rfl
  obtain ⟨v1, e1, q1⟩ := I.cell 1 ⟨drD r, true⟩ rfl
  rcases q1 with ⟨z, _⟩ | ⟨_, ad, o, rfl, nF, _, hH, rO⟩
  · cases z
  have r0 : Rep (g0 K cls) F v0 (.scr ns) := by
    rcases q0 with ⟨_, r0⟩ | ⟨z, _⟩
    · exact r0
    · cases z
  obtain ⟨ga, ca, rfl, f1, f3⟩ := dr_of rO
  have nd : ∀ xs : List V, ¬ IsDict (.lst xs) := fun xs z => by rcases z with ⟨_, z⟩ | ⟨_, z⟩ <;> cases z
  have h1 : H ga = some (.lst (r.great.map V.int)) := (I.sub _ _ f1).resolve_right fun z => nd _ z.1
  have h3 : H ca = some (.lst (r.cells.map V.int)) := (I.sub _ _ f3).resolve_right fun z => nd _ z.1
  obtain ⟨s', hm⟩ := h2 (decide (ga = ca))
  refine ⟨ad, ga, ca, scrF v0 H, ⟨lawE nl ns (some ⟨.res, false⟩), r⟩, _, s', ⟨fun a u e => ?_, ⟨hH, h1, h3⟩, fun a ha => ?_, I.len, fun i c ec => ?_, fun i j ci cj a _ ei _ oi _ _ => ?_⟩, hm, fun F' σ' v H' _ _ rv => ?_⟩
  · unfold scrF at e
    split at e
    · split at e
      · cases e; left; assumption
      · cases e
    · cases e
  · unfold scrF
    split
    · split
      · rename_i q
        rcases ha with rfl | rfl | rfl
        · rw [hH] at q; cases q
        · rw [h1] at q; cases q
        · rw [h3] at q; cases q
      · rfl
    · rfl
  · match i, ec with
    | 0, ec => cases ec; exact ⟨v0, e0, .inl ⟨rfl, scr_rep (g := g0 K cls) (g' := gD K cls ad ga ca) rfl I.sub r0⟩⟩
    | 1, ec => cases ec; exact ⟨_, e1, .inl ⟨rfl, .res⟩⟩
    | i + 2, ec =>
      have ec : (List.replicate nl (none : Option Cell))[i]? = some (some c) := ec
      rw [List.getElem?_replicate] at ec
      split at ec <;> cases ec
  · match i, ei with
    | 0, ei => cases ei; cases oi
    | 1, ei => cases ei; cases oi
    | i + 2, ei =>
      have ei : (List.replicate nl (none : Option Cell))[i]? = some (some ci) := ei
      rw [List.getElem?_replicate] at ei
      split at ei <;> cases ei
  · have rv : Rep (gD K cls ad ga ca) F' v (.bl true) := rv
    have : v = .bl true := by
      cases rv with
      | bl => rfl
      | ref _ z => cases z
    rw [this]; exact ok H'
def spLaw (K : PySem.W.Frag) (n : Nat) : Sp := fun vs H Q _ => ∃ (a : Addr) (ns : List Int), vs = [.ref a] ∧ ns.length ≤ n ∧ Only H ∧ SqL K H a (ns.map V.int) ∧ ∀ H', Q (.bl true) H'
theorem law_ok {P : Program} {w : World} {mg : Str → Option Value} {base : Heap} {k nl n : Nat} {st1 : Stmt} {rest : List Stmt} {N2 : List Str} {xd qual : Str} {params : Arguments} {scope : Scope} {f : Addr} {fd : FuncData} {m1 : MS Unit} {m2 : Bool → MS Dr}
    (sy : ∃ u, base.get? sysModules = some u) (F : FunD K "law" qual params (st1 :: rest) scope [] [] f fd) (S : FnScope ("script" :: xd :: N2) ["script"] scope) (hn : N2.length = nl)
    (hb1 : ∀ (cdv : Value) (A : Around) (outer : List Env) (s : Shared) (H : Hp), XO (g0 K cls) k (cxOf CX0 P w K mg base ("script" :: xd :: N2) qual scope f cdv A outer s H E0).nox → DS (g0 K cls) (cxOf CX0 P w K mg base ("script" :: xd :: N2) qual scope f cdv A outer s H E0).nox st1 m1)
    (hb2 : ∀ (ad ga ca : Addr) (cdv : Value) (A : Around) (outer : List Env) (s : Shared) (H : Hp), XO (gD K cls ad ga ca) k (cxOf CX0 P w K mg base ("script" :: xd :: N2) qual scope f cdv A outer s H E0).nox → DB (gD K cls ad ga ca) (cxOf CX0 P w K mg base ("script" :: xd :: N2) qual scope f cdv A outer s H E0).nox rest (m2 (decide (ga = ca))))
    (h1 : ∀ ns : List Int, ns.length ≤ n → ∃ r, m1 ⟨lawE nl ns none, ()⟩ = some (.nx, ⟨lawE nl ns (some ⟨drD r, true⟩), ()⟩))
    (h2 : ∀ (ns : List Int) (b : Bool) (r : Dr), ns.length ≤ n → ∃ s', m2 b ⟨lawE nl ns (some ⟨.res, false⟩), r⟩ = some (.rt (.sh (.bl true)), s')) :
    FnG P w K mg base (k + 1) f fd ["script"] (spLaw K n) := by
  refine FunD.okG F S (fun vs H Q E ⟨a, ns, e, _⟩ => by rw [e]; rfl) fun cdv A outer s H vs Q hr gd hsp => ?_
  refine ⟨tSeq (tS (g0 K cls) m1) (fun E σ H => ∃ ad ga ca, tS (gD K cls ad ga ca) (m2 (decide (ga = ca))) E σ H), PSs.nox (pss_cons (hb1 cdv A outer s H ⟨rfl, hr, rfl, S.nd, deeper_guards gd, sy⟩) ⟨fun pins s' σ' H' E' I' ⟨ad, ga, ca, q⟩ => (hb2 ad ga ca cdv A outer s H ⟨rfl, hr, rfl, S.nd, deeper_guards gd, sy⟩).run pins s' σ' H' E' I' q⟩), ?_⟩
  obtain ⟨a, ns, rfl, hlen, hO, hS, hQ⟩ := hsp
  obtain ⟨r, e1⟩ := h1 ns hlen
  let F0 : Hp := fun b => if b = a then H a else none
  have rep : Rep (g0 K cls) F0 (.ref a) (.scr ns) := by
    rcases hS with (z | ⟨o, z⟩) | z
    · rcases hO a with q | ⟨_, _, q⟩ <;> (rw [z] at q; cases q)
    · exact .ref (show F0 a = some _ by show (if a = a then H a else none) = _; rw [if_pos rfl]; exact z) .scr
    · exact .kscr fun H => .inr z
  have I : Sim (g0 K cls) F0 ⟨lawE nl ns none, ()⟩ (L2.start ("script" :: xd :: N2) [.ref a]) H := by
    have := sim_ent (g := g0 K cls) (F := F0) (H := H) (N := "script" :: xd :: N2) (vs := [.ref a]) (ds := [.scr ns]) (r := ()) (fun b o e => by
      have e : (if b = a then H a else none) = some o := e
      split at e
      · rename_i hb; rw [hb]; exact .inl e
      · cases e) trivial (fun _ z => z.elim) (.cons rep .nil)
    have ee : ent (("script" : Str) :: xd :: N2).length [D.scr ns] = lawE nl ns none := by
      show some _ :: List.replicate (N2.length + 1 + 1 - 1) none = _
      rw [hn]; rfl
    rw [ee] at this
    exact this
  refine ⟨F0, _, .nx, _, I, e1, fun F' σ' H' I' K' => ?_⟩
  exact law_rest I' (fun b => h2 ns b r hlen) hQ
end
/-! ### facts of a class for isinstance, by a test -/
def isCB (K : PySem.W.Frag) (C : Addr) : Bool := He.eqO (PySem.W.findIn K (.ref C) "__class__") (some (some (.builtin "object.__class__"))) &&
  (He.eqO (PySem.W.specialIn K (.builtin "object.__class__") "__get__") (some (some (.builtin "getset_descriptor.__get__"))) &&
    (decide (PySem.W.takesIn K (.builtin "object.__class__") = some true) && decide (PySem.W.mroIn K C (.type "object") = some true)))
theorem isCB_ok {K : PySem.W.Frag} {C : Addr} (cl : Cls K C) (h : isCB K C = true) : IsC K C := by
  unfold isCB at h
  simp only [Bool.and_eq_true] at h
  obtain ⟨h1, h2, h3, h4⟩ := h
  exact ⟨cl, He.eqO_ok h1, He.eqO_ok h2, of_decide_eq_true h3, of_decide_eq_true h4⟩
/-! ### the end -/
def SysOk (h : Heap) : Prop := ∃ o es n, h.get? sysModules = some o ∧ o.data = .dict es n
def sysB (g : Addr → Option Obj) : Bool := match g sysModules with
  | some ⟨_, _, .dict _ _, _⟩ => true
  | _ => false
theorem sysB_ok {h : Heap} (e : sysB h.get? = true) : SysOk h := by
  unfold sysB at e
  split at e
  · exact ⟨_, _, _, by assumption, rfl⟩
  · cases e
theorem law_callG {P : Program} {w : World} {K : PySem.W.Frag} {mg mb : Str → Option Value} {k n : Nat} {fa a : Addr} {fd : FuncData} {x : Str} {s1 : Shared} {vs : List Value} {ns : List Int}
    (kin : K.In s1.heap) (sy : SysOk s1.heap) (hns : s1.heap.Ns mainGlobals mg) (hbl : s1.heap.Ns builtinsNs mb) (hbb : ∀ x : Str, x ≠ "__name__" → mb x = bootBuiltins x) (hlim : s1.heap.NoLimit) (hgen : s1.gens = #[])
    (ha : s1.heap.get? a = some { cls := .type "list", data := .seq vs.toArray }) (hi : IntsAre vs ns) (hl : ns.length ≤ sizeLine) (hln : ns.length ≤ n) (hr : Room k callerA)
    (F : ∀ base : Heap, K.In base → base.Ns mainGlobals mg → (∃ u, base.get? sysModules = some u) → FnG P w K mg base k fa fd [x] (spLaw K n)) (hbind : ∀ (s : Shared) (u : Value), BindsTo s fd ⟨[u], []⟩ [(x, u)]) :
    codeAny (model P w) callerA (.call (.ref fa) ⟨[.ref a], []⟩) (fun r s' => r = .ok (.ret (.bool true)) ∧ OldK s1.heap s'.heap ∧ s'.os = s1.os ∧ AllBare s'.gens) s1 := by
  have main : ∀ H : Hp, Only H → SqL K H a (ns.map V.int) → HOk P w H s1.heap → (∀ b u, H b = some u → b = a ∧ K.lookup a = none) →
      codeAny (model P w) callerA (.call (.ref fa) ⟨[.ref a], []⟩) (fun r s' => r = .ok (.ret (.bool true)) ∧ OldK s1.heap s'.heap ∧ s'.os = s1.os ∧ AllBare s'.gens) s1 := by
    intro H hO hS hok hA
    have nodict : ∀ {b : Addr} {ob : Obj} {es : Array DictEntry} {ep : Nat}, s1.heap.get? b = some ob → ob.data = .dict es ep → H b = none := by
      intro b ob es ep e d
      cases q : H b with
      | none => rfl
      | some u =>
        rw [(hA b u q).1, ha] at e
        cases e
        exact absurd d (fun z => nomatch z)
    have ns' : ∀ {b : Addr} {m : Str → Option Value}, s1.heap.Ns b m → (hidT s1.heap H).Ns b m := by
      intro b m ⟨ob, es, ep, e, d, r⟩
      exact ⟨ob, es, ep, hidT_get e (nodict e d), d, r⟩
    have kin' : K.In (hidT s1.heap H) := by
      intro b ob e
      refine hidT_get (kin b ob e) ?_
      cases q : H b with
      | none => rfl
      | some u =>
        obtain ⟨z1, z2⟩ := hA b u q
        rw [z1, z2] at e; cases e
    have sy' : ∃ u, (hidT s1.heap H).get? sysModules = some u := by
      obtain ⟨ob, es, m, e, d⟩ := sy
      exact ⟨ob, hidT_get e (nodict e d)⟩
    obtain ⟨mc, l1, l2⟩ := hlim
    have md : L2.Mod K mg (hidT s1.heap H) := ⟨kin', ns' hns, ⟨mb, ns' hbl, hbb⟩, ⟨mc, ns' l1, l2⟩⟩
    have nob : ∀ b : Addr, b ∉ frs ([] : List Env) := fun b z => by cases z
    have e0 : Env0 P w K mg (hidT s1.heap H) callerA [] s1 H :=
      ⟨rfl, md, fun b o e => of_hidT e, Nat.le_of_eq (hidT_size _ _), trivial, fun b z => (nob b z).elim, hok, .of_eq hgen⟩
    refine codeAny_mono ((F _ kin' (ns' hns) sy').go (vs := [.ref a]) (us := [.ref a]) (Q := fun v _ => v = .bl true) hr rfl e0 (hbind s1 (.ref a)) (.cons rfl .nil) ⟨a, ns, rfl, hln, hO, hS, fun _ => rfl⟩) ?_
    intro r s' h
    match r, h with
    | .ok (.ret u), h =>
      obtain ⟨v, H', os, bare, un, hok', rv, q⟩ := h
      have q : v = .bl true := q
      subst q
      obtain rfl : u = Value.bool true := rv
      refine ⟨rfl, OldK.of_keep ?_, os, bare⟩
      intro b ob e
      cases q : H b with
      | none => exact un.keep b ob e q (nob b) (by simp)
      | some u =>
        rcases hO b with z | ⟨od, xs, z⟩
        · rw [q] at z; cases z
        · have e1 := (hok b _ z).1
          rw [e] at e1
          cases e1
          exact (hok' b _ (un.frzs b _ _ z)).1
  have rv := vals_ints hi
  have lenV := hi.length
  cases hk : K.lookup a with
  | some o =>
    have e := kin a o hk
    rw [ha] at e
    cases e
    refine main (fun _ => none) (fun _ => .inl rfl) (.inr ⟨_, vs.toArray, _, hk, rfl, rfl, rfl, ?_, by simpa using rv⟩) (fun b u z => nomatch (show (none : Option HO) = some u from z)) (fun b u z => nomatch (show (none : Option HO) = some u from z))
    rw [List.size_toArray, lenV]; exact hl
  | none =>
    let Ha : Hp := upd (fun _ => none) a (.frz { cls := .type "list", data := .seq vs.toArray } (.lst (ns.map V.int)))
    have at_a : Ha a = some (.frz { cls := .type "list", data := .seq vs.toArray } (.lst (ns.map V.int))) := upd_same
    have off : ∀ b u, Ha b = some u → b = a := fun b u z => by
      by_cases hb : b = a
      · exact hb
      · have z : upd (fun _ => none) a _ b = some u := z
        rw [upd_ne hb] at z; cases z
    refine main Ha (fun b => ?_) (.inl (.inr ⟨_, at_a⟩)) (fun b u z => ?_) (fun b u z => ⟨off b u z, hk⟩)
    · cases q : Ha b with
      | none => exact .inl rfl
      | some u =>
        have := off b u q
        subst this
        rw [at_a] at q
        exact .inr ⟨_, _, q.symm⟩
    · have := off b u z
      subst this
      rw [at_a] at z
      cases z
      exact ⟨ha, by rw [List.length_map]; exact hl, vs, _, rv, ha⟩
end RW
namespace RW
open PySem L2 StX
section
variable {g : G} {X : Cx}
/-! ### (*xs, e, ..), [*xs, e, ..] -/
def seqOf : D → Option (List D)
  | .tup ds => some ds
  | .lst ds => some ds
  | _ => none
def mStar {R : Type} (ma : M R Vr) (mr : M R (List Vr)) : M R (List D) := fun s => (ma s).bind fun p => (pk (soft p.1) p.2).bind fun d => (seqOf d).bind fun ds => (mr p.2).bind fun q => (escAll q.1 q.2).bind fun z => if ds.length + q.1.length ≤ sizeLine then some (ds ++ z.1, z.2) else none
def mStarT {R : Type} (ma : M R Vr) (mr : M R (List Vr)) : M R Vr := fun s => (mStar ma mr s).map fun q => (.sh (.tup q.1), q.2)
def mStarL {R : Type} (ma : M R Vr) (mr : M R (List Vr)) : M R Vr := fun s => (mStar ma mr s).map fun q => (.tmp (.lst q.1), q.2)
theorem RepAll.app2 {F : Hp} : ∀ {xs ys : List V} {ds es : List D}, RepAll g F xs ds → RepAll g F ys es → RepAll g F (xs ++ ys) (ds ++ es)
  | _, _, _, _, .nil, h => h
  | _, _, _, _, .cons a b, h => .cons a (RepAll.app2 b h)
theorem tStar_of {n : Nat} {ma : M g.R.S Vr} {mr : M g.R.S (List Vr)} {F : Hp} {s : S g.R.S} {σ : St} {H : Hp} {ds : List D} {s' : S g.R.S} {Q : List V → Hp → Prop} (I : Sim g F s σ H) (e : mStar ma mr s = some (ds, s')) (hK : X.K = g.K)
    (k : ∀ F' vs H', Sim g F' s' σ H' → Keep g F s σ H F' s' σ H' → RepAll g F' vs ds → vs.length ≤ sizeLine → Q vs H') : tStar X.K (tM g ma) (tMV g n mr) σ H Q := by
  unfold mStar at e
  obtain ⟨p, e1, e⟩ := Option.bind_eq_some_iff.mp e
  obtain ⟨d, e2, e⟩ := Option.bind_eq_some_iff.mp e
  obtain ⟨xs, e3, e⟩ := Option.bind_eq_some_iff.mp e
  obtain ⟨q, e4, e⟩ := Option.bind_eq_some_iff.mp e
  obtain ⟨z, e5, e⟩ := Option.bind_eq_some_iff.mp e
  split at e
  · rename_i hz
    cases e
    refine tM_soft I e1 fun F1 v H1 I1 K1 w1 => ?_
    have pk1 := w1.pk I1 e2
    have sq : ∃ a vs, v = .ref a ∧ (SqT X.K H1 a vs ∨ SqL X.K H1 a vs) ∧ RepAll g F1 vs xs := by
      cases d with
      | tup ds =>
        cases e3
        obtain ⟨a, vs, rfl, h1, h2⟩ := pk1.tup I1.sub
        exact ⟨a, vs, rfl, .inl (by rw [hK]; exact h1), h2⟩
      | lst ds =>
        cases e3
        obtain ⟨a, vs, rfl, h1, h2⟩ := pk1.lst I1.sub
        exact ⟨a, vs, rfl, .inr (SqL.of h1), h2⟩
      | _ => cases e3
    obtain ⟨a, vs, rfl, h1, h2⟩ := sq
    refine ⟨a, vs, rfl, h1, F1, p.2, q.1, q.2, I1, e4, fun F2 ys H2 I2 K2 w2 hl => ?_⟩
    obtain ⟨F3, I3, K3, r3⟩ := escAll_ok I2 w2 e5
    refine k F3 (vs ++ ys) H2 I3 ((K1.trans K2 I2).trans K3 I3) ((h2.mono (K2.grow.trans K3.grow)).app2 r3) ?_
    rw [List.length_append, h2.length, ← w2.length]
    exact hz
  · cases e
theorem d_starT {lv n : Nat} {e : Expr} {es : List Expr} {x1} {p pos : Pos} {ma : M g.R.S Vr} {mr : M g.R.S (List Vr)} (o : XO g lv X) (he : DE g X e ma) (hr : DA g X n es mr) (hs : starEach (.Starred e p :: es) X.env = (true, eval e X.env) :: starEach es X.env := by rfl) : DE g X (.Tuple (.Starred e p :: es) x1 pos) (mStarT ma mr) := by
  refine PE.imp (pe_tup (pa_star he hr hs)) fun σ H Q ⟨F, s, res, s', I, e, k⟩ => ?_
  unfold mStarT at e
  obtain ⟨q, e1, e⟩ := Option.map_eq_some_iff.mp e
  cases e
  refine tStar_of I e1 o.K fun F2 vs H1 I2 K2 r2 hl => ⟨hl, fun a ha => ?_⟩
  have x : Ext F2 H1 (upd F2 a (.tup vs)) (upd H1 a (.tup vs)) := Ext.new I2.sub ha
  exact k _ _ _ (I2.ext x) (K2.trans (Keep.ext x) (I2.ext x)) (.tup upd_same (r2.mono x.le))
theorem d_starL {lv n : Nat} {e : Expr} {es : List Expr} {p pos : Pos} {ma : M g.R.S Vr} {mr : M g.R.S (List Vr)} (o : XO g lv X) (he : DE g X e ma) (hr : DA g X n es mr) (hs : starEach (.Starred e p :: es) X.env = (true, eval e X.env) :: starEach es X.env := by rfl) : DE g X (.List (.Starred e p :: es) pos) (mStarL ma mr) := by
  refine PE.imp (pe_lst (pa_star he hr hs)) fun σ H Q ⟨F, s, res, s', I, e, k⟩ => ?_
  unfold mStarL at e
  obtain ⟨q, e1, e⟩ := Option.map_eq_some_iff.mp e
  cases e
  refine tStar_of I e1 o.K fun F2 vs H1 I2 K2 r2 hl => ⟨hl, fun a ha => ?_⟩
  have x : Ext F2 H1 F2 (upd H1 a (.lst vs)) := Ext.tmp I2.sub ha
  exact k _ _ _ (I2.ext x) (K2.trans (Keep.ext x) (I2.ext x)) (tmp_ok I2 K2 ha (.lst r2))
/-! ### x += e, ints -/
def mAugI {R : Type} (i : Nat) (f : Int → Int → Int) (me : M R Vr) : MS R := fun s => match s.e[i]? with
  | some (some ⟨.int a, false⟩) => (me s).bind fun p => (match p.1 with
    | .sh (.int b) => some (.nx, { p.2 with e := p.2.e.set i (some ⟨.int (f a b), false⟩) })
    | _ => none)
  | _ => none
theorem s_augI {i : Nat} {x : Str} {f : Int → Int → Int} {op : Operator} {e : Expr} {me : M g.R.S Vr} {pos' pos : Pos} (hN : X.N.Nodup) (ho : PIp X op (ipI f)) (he : DE g X e me) (hi : X.N[i]? = some x := by rfl) (hx : Loc X.env.scope x := by first | exact Or.inl rfl | exact Or.inr rfl)
    (hf : X.fn x = true ∨ X.env.scope.names.lookup x = some .local := by first | exact .inl rfl | exact .inr rfl | assumption) : DS g X (.AugAssign (.Name x pos') op e pos) (mAugI i f me) := by
  refine PS.imp (ps_aug hN hi hx he ho) fun E σ H ⟨F, s, fl, s', I, e, o⟩ => ?_
  unfold mAugI at e
  split at e
  · rename_i a ea
    obtain ⟨p, e1, e⟩ := Option.bind_eq_some_iff.mp e
    split at e
    · rename_i b hb
      cases e
      obtain ⟨v, ev, cv⟩ := I.cell i _ ea
      have hv : v = .int a := by
        rcases cv with ⟨_, q⟩ | ⟨z, _⟩
        · cases q with
          | int => rfl
          | ref _ z => cases z
        · cases z
      subst hv
      refine ⟨_, ev, F, s, p.1, p.2, I, e1, fun F1 v H1 I1 K1 w => ?_⟩
      rw [hb] at w
      have w : Rep g F1 v (.int b) := w
      have hv : v = .int b := by
        cases w with
        | int => rfl
        | ref _ z => cases z
      subst hv
      refine ⟨a, b, rfl, rfl, ?_⟩
      obtain ⟨I2, K2⟩ := put_ok (i := i) (r := .sh (.int (f a b))) (v := .int (f a b)) I1 K1 (.int _) rfl
      exact o F1 _ H1 I2 K2
    · cases e
  · cases e
/-! ### > of texts -/
def gtD : D → D → Option Vr
  | .int i, .int j => some (.sh (.bl (decide (j < i))))
  | .str x, .str y => some (.sh (.bl (decide (y.cps.toList < x.cps.toList))))
  | _, _ => none
theorem op_gtD : OpR X (compareOp .Gt) (fun x y H Q => (rI0 fun i j => .bl (decide (j < i))) x y H Q ∨ ∃ i j, x = .str i ∧ y = .str j ∧ Q (.bl (decide (j.cps.toList < i.cps.toList))) H) := OpR.or op_gt op_gt_str
theorem p_gtD : Op2 g gtD (fun x y H Q => (rI0 fun i j => .bl (decide (j < i))) x y H Q ∨ ∃ i j, x = .str i ∧ y = .str j ∧ Q (.bl (decide (j.cps.toList < i.cps.toList))) H) := by
  refine ⟨fun x y z e i => ?_, fun F H x y dx dy z Q s p q e n => ?_⟩
  · unfold gtD at e
    split at e <;> cases e <;> exact fun z => nomatch z
  · unfold gtD at e
    split at e
    · cases e
      obtain rfl := p.int
      obtain rfl := q.int
      exact .inl ⟨_, _, rfl, rfl, n.q s (.bl _)⟩
    · cases e
      obtain rfl := p.str
      obtain rfl := q.str
      exact .inr ⟨_, _, rfl, rfl, n.q s (.bl _)⟩
    · cases e
theorem t_gtD {a b : Expr} {ma mb : M g.R.S Vr} {pos : Pos} (ha : DE g X a ma) (hb : DE g X b mb) : DT g X (.Compare a [.Gt] [b] pos) (mOp2 gtD ma mb) := t_cmp op_gtD p_gtD ha hb (nobehind _ (by decide) (by decide))
/-! ### xs.extend(ys) -/
theorem tMutS_of {i n : Nat} {T : String} {ty : D → Bool} {f : D → List D → Option (D × D)} {r : V → List V → Hp → VK → Prop} {ma : M g.R.S (List Vr)}
    (ok : ∀ F H p o d vs ds v d' Q, Sub F H → H p = some o → RepO g F o d → RepAll g F vs ds → vs.length = n → f d ds = some (v, d') → (∀ o' x, RepO g F o' d' → Rep g F x v → Q x (upd H p o')) → r (.ref p) vs H Q)
    (hty : ∀ F H v d, Sub F H → Pk g F H v d → ty d = true → tyV X.K T v H) {σ : St} {H : Hp} {Q : VK} (h : tM g (mMut i ty f ma) σ H Q) : tBM X.K T r (tVar i) (tMV g n ma) σ H Q := by
  obtain ⟨F, s, res, s', I, e, k⟩ := h
  unfold mMut at e
  split at e
  · rename_i c ec
    split at e
    · rename_i ht
      obtain ⟨p, e1, e⟩ := Option.bind_eq_some_iff.mp e
      obtain ⟨q, e2, e⟩ := Option.bind_eq_some_iff.mp e
      obtain ⟨v, ev, cv⟩ := I.cell i c ec
      have pk0 : Pk g F H v c.d := by
        rcases cv with ⟨_, b⟩ | ⟨_, p, o, b1, _, _, b4, b5⟩
        · exact .inl b
        · exact .inr ⟨p, o, b1, b4, b5⟩
      refine ⟨v, ev, hty F H v c.d I.sub pk0 ht, F, s, p.1, p.2, I, e1, fun F1 vs H1 I1 K1 w1 hl => ?_⟩
      obtain ⟨F2, I2, K2, r2⟩ := escAll_ok I1 w1 e2
      split at e
      · rename_i c2 ec2
        split at e
        · rename_i ho
          obtain ⟨z, e3, e⟩ := Option.map_eq_some_iff.mp e
          cases e
          obtain ⟨v2, ev2, cv2⟩ := I2.cell i c2 ec2
          rw [ev] at ev2; cases ev2
          rcases cv2 with ⟨z0, _⟩ | ⟨_, a, o, rfl, b2, b3, b4, b5⟩
          · rw [ho] at z0; cases z0
          · refine ok F2 H1 a o c2.d vs q.1 z.1 z.2 _ I2.sub b4 b5 r2 hl e3 fun o' x r3 r4 => ?_
            obtain ⟨I3, K3⟩ := I2.mut ec2 ho ev b4 r3
            exact k F2 x _ I3 ((K1.trans K2 I2).trans K3 I3) r4
        · cases e
      · cases e
    · cases e
  · cases e
def extL : D → List D → Option (D × D)
  | .lst xs, [.lst ys] => if xs.length + ys.length ≤ sizeLine then some (.non, .lst (xs ++ ys)) else none
  | _, _ => none
theorem d_ext {i : Nat} {e : Expr} {ma : M g.R.S (List Vr)} (h : PE X e (tBM X.K "list" rExtend (tVar i) (tMV g 1 ma))) : DE g X e (mMut i isLst extL ma) :=
  PE.imp h fun _ _ _ q => tMutS_of (fun F H p o d vs ds v d' Q hS hp r rs hl e n => by
    unfold extL at e
    split at e
    · split at e
      · rename_i hz
        cases e
        cases r with
        | lst r1 =>
          cases rs with
          | cons a b =>
            cases b
            obtain ⟨b, zs, rfl, h1, h2⟩ := Pk.lst hS (.inl a)
            exact ⟨p, b, _, zs, rfl, rfl, hp, h1, by rw [r1.length, h2.length]; exact hz, n _ _ (.lst (r1.app2 h2)) .non⟩
      · cases e
    · cases e) (fun _ _ _ _ s p t => ty_lst s p t) q
end
end RW
namespace RW
open PySem L2 PyProof.Rows
/-! ### data in order: sorted and min of tuples -/
def pyD (d : D) : PyData := (toPy d).getD .none
theorem toPyAll_map : ∀ {ds : List D} {ps : List PyData}, toPyAll ds = some ps → ds.map pyD = ps
  | [], _, e => by rw [toPyAll] at e; cases e; rfl
  | d :: ds, _, e => by
    rw [toPyAll] at e
    obtain ⟨p, e1, e⟩ := Option.bind_eq_some_iff.mp e
    obtain ⟨q, e2, e⟩ := Option.map_eq_some_iff.mp e
    cases e
    rw [List.map_cons, toPyAll_map e2]
    unfold pyD
    rw [e1]; rfl
def tupNe : PyData → Bool
  | .tuple (_ :: _) => true
  | _ => false
def noTup : PyData → Bool
  | .tuple _ => false
  | .none => false
  | _ => true
/-- these can be put in order -/
def okS (ps : List PyData) : Bool := (ps.all fun p => ps.all fun q => PySem.W.alike p q) && ((ps.all tupNe || ps.all noTup) && ps.all fun p => decide (p.depth ≤ 40))
theorem okS_alike {ps : List PyData} (h : okS ps = true) : PySem.W.AllAlike ps := by
  unfold okS at h
  simp only [Bool.and_eq_true, List.all_eq_true] at h
  exact fun d hd d' hd' => h.1 d hd d' hd'
theorem okS_kind {ps : List PyData} (h : okS ps = true) : PySem.W.Sortable ps := by
  unfold okS at h
  rw [Bool.and_eq_true, Bool.and_eq_true, Bool.or_eq_true] at h
  rcases h.2.1 with h | h <;> rw [List.all_eq_true] at h
  · refine .inl fun d hd => ?_
    have := h d hd
    unfold tupNe at this
    split at this
    · exact ⟨_, _, rfl⟩
    · cases this
  · refine .inr fun d hd => ?_
    have := h d hd
    unfold noTup at this
    split at this
    · cases this
    · cases this
    · rename_i h1 h2
      exact ⟨fun z => h2 z, fun xs z => h1 xs z⟩
theorem okS_depth {ps : List PyData} (h : okS ps = true) : ∀ p ∈ ps, p.depth ≤ 40 := by
  unfold okS at h
  rw [Bool.and_eq_true, Bool.and_eq_true, List.all_eq_true, List.all_eq_true] at h
  exact fun p hp => of_decide_eq_true (h.2.2 p hp)
section
variable {g : G} {X : Cx}
def EachR (g : G) (F : Hp) (u : Value) (d : D) : Prop := ∃ v, RelV v u ∧ Rep g F v d
theorem each_rep {F : Hp} : ∀ {vs : List V} {ds : List D} {us : List Value}, RepAll g F vs ds → Vals vs us → PySem.W.EachIs (EachR g F) us ds
  | _, _, _, .nil, r => by cases r; exact .nil
  | _, _, _, .cons h t, r => by
    cases r with
    | cons r1 r2 => exact .cons ⟨_, r1, h⟩ (each_rep t r2)
theorem rep_each {F : Hp} : ∀ {us : List Value} {ds : List D}, PySem.W.EachIs (EachR g F) us ds → ∃ vs, RepAll g F vs ds ∧ Vals vs us
  | _, _, .nil => ⟨[], .nil, .nil⟩
  | _, _, .cons ⟨v, h1, h2⟩ t => by
    obtain ⟨vs, h3, h4⟩ := rep_each t
    exact ⟨v :: vs, .cons h2 h3, .cons h1 h4⟩
theorem each_reads {pins : List (Addr × Obj)} {σ : L2.St} {F H : Hp} {s : Shared} (I : Inv X pins σ H s) (hS : Sub F H) (hK : X.K = g.K) (sy : ∃ u, X.base.get? sysModules = some u) :
    ∀ {vs : List V} {ds : List D} {us : List Value} {ps : List PyData}, RepAll g F vs ds → Vals vs us → toPyAll ds = some ps → PySem.W.EachIs (fun v b => ∃ as, Reads s.heap v (pyD b) as) us ds
  | _, _, _, _, .nil, r, _ => by cases r; exact .nil
  | _, _, _, _, .cons h t, r, e => by
    cases r with
    | cons r1 r2 =>
      rw [toPyAll] at e
      obtain ⟨p, e1, e⟩ := Option.bind_eq_some_iff.mp e
      obtain ⟨q, e2, e⟩ := Option.map_eq_some_iff.mp e
      cases e
      obtain ⟨as, ra, _⟩ := reads_rep I hS hK sy h r1 e1
      refine .cons ⟨as, ?_⟩ (each_reads I hS hK sy t r2 e2)
      unfold pyD
      rw [e1]; exact ra
def srtL (ds : List D) : List D := ds.mergeSort (PySem.W.dataLe false pyD)
def sortE : D → Option Vr
  | .lst ds => (toPyAll ds).bind fun ps => if okS ps = true then some (.tmp (.lst (srtL ds))) else none
  | _ => none
def rSortE (g : G) : List V → Hp → VK → Prop := fun xs H Q => ∃ v F ds ps, xs = [v] ∧ Sub F H ∧ Pk g F H v (.lst ds) ∧ toPyAll ds = some ps ∧ okS ps = true ∧
  ∀ ws p, RepAll g F ws (srtL ds) → H p = none → Q (.ref p) (upd H p (.lst ws))
theorem call_sortE {k : Nat} (o : XO g k X) : CallR X (.builtin "sorted") (rSortE g) := by
  intro pins s σ H xs us Q I r ⟨v, F, ds, ps, e, hS, hp, hx, hok, q⟩
  subst e
  obtain ⟨a, vs, rfl, e1, r1⟩ := hp.lst hS
  rw [Vals.ref1 r]
  obtain ⟨its, rv, hl, hz⟩ := I.list (SqL.of e1 : SqL X.K H a vs)
  have em := toPyAll_map hx
  refine PySem.W.sorted_data (R := EachR g F) (enc := pyD) hl.isList (each_rep r1 rv) (each_reads I hS o.K o.sy r1 rv hx) (by rw [em]; exact okS_alike hok) (by rw [em]; exact okS_kind hok) (by rw [← r1.length]; exact hz) (fun b hb => ?_) fun out hlen he => ?_
  · have := okS_depth hok (pyD b) (by rw [← em]; exact List.mem_map_of_mem hb)
    have := o.hu64
    omega
  · obtain ⟨ws, h1, h2⟩ := rep_each he
    obtain ⟨ep, he'⟩ := PyProof.Rows.sortedAll_at s.heap its (List.toArray out)
    have hlen' : ws.length ≤ sizeLine := by rw [h2.length, hlen, ← r1.length]; exact hz
    exact ⟨.ref _, upd H (s.heap.objs.size + 1) (.lst ws), I.laid (t' := s.toks) (fun _ _ => PyProof.Rows.sortedAll_old) (Nat.le_succ _) ⟨hlen', out, ep, h2, he'⟩, rfl, q ws _ h1 (I.hok.fresh (Nat.le_succ _))⟩
theorem p_sortD : Op1 g sortD (fun x H Q => rSortedS g.K [x] H Q ∨ ∃ (a : Addr) (kvs : List (Key × V)) (ks : List Str), [x] = [.ref a] ∧ Rd H a (.dK kvs) ∧ kvs.map (·.1) = ks.map Sum.inr ∧ ks.length < 64 ∧
    ∀ ys p, ys.Perm ks → sortedS ys = true → H p = none → Q (.ref p) (upd H p (.lst (ys.map V.str)))) := by
  refine ⟨fun x z e i => ?_, fun F H x dx z Q s p e n => ?_⟩
  · unfold sortD at e
    split at e
    · obtain ⟨xs, _, e⟩ := Option.bind_eq_some_iff.mp e
      split at e
      · cases e; exact fun z => nomatch z
      · cases e
    · obtain ⟨xs, _, e⟩ := Option.bind_eq_some_iff.mp e
      split at e
      · cases e; exact fun z => nomatch z
      · cases e
    · cases e
  · unfold sortD at e
    split at e
    · obtain ⟨xs, h1, e⟩ := Option.bind_eq_some_iff.mp e
      split at e
      · cases e
        obtain ⟨a, vs, rfl, e1, r1⟩ := p.lst s
        rw [strsOf_eq h1] at r1
        rw [rep_strs r1] at e1
        refine .inl ⟨a, xs, rfl, SqL.of e1, by assumption, fun ys p hp hs hn => ?_⟩
        rw [sortS_eq hp hs]
        exact n.newO s (.lst (all_strs _)) p hn
      · cases e
    · obtain ⟨xs, h1, e⟩ := Option.bind_eq_some_iff.mp e
      split at e
      · cases e
        obtain ⟨a, kvs, rfl, e1, r1⟩ := p.dK s
        refine .inr ⟨a, kvs, xs, rfl, e1, keysStr_eq r1 h1, by assumption, fun ys p hp hs hn => ?_⟩
        rw [sortS_eq hp hs]
        exact n.newO s (.lst (all_strs _)) p hn
      · cases e
    · cases e
/-- sorted: texts, the keys of a dict, or any data alike -/
def sortF (d : D) : Option Vr := match sortD d with
  | some r => some r
  | none => sortE d
theorem d_sorted2 {a : Expr} {ma : M g.R.S Vr} {p pos : Pos} {k : Nat} (o : XO g k X) (hg : Gl X "sorted") (hm : X.mg "sorted" = none) (ha : DE g X a ma) (he : starEach [a] X.env = (false, eval a X.env) :: starEach [] X.env := by rfl) : DE g X (.Call (.Name "sorted" p) [a] [] pos) (mOp1 sortF ma) := by
  refine d_b1 (CallR.or (CallR.or cr_sortedS (call_sortedD o.calm)) (call_sortE o)) ⟨fun x z e i => ?_, fun F H x dx z Q s p e n => ?_⟩ (by decide +kernel) hg hm ha (by decide) (by decide) he rfl
  · unfold sortF at e
    cases h : sortD x with
    | some r => rw [h] at e; cases e; exact p_sortD (g := g).no _ _ h i
    | none =>
      rw [h] at e
      have e : sortE x = some z := e
      unfold sortE at e
      split at e
      · obtain ⟨ps, _, e⟩ := Option.bind_eq_some_iff.mp e
        split at e
        · cases e; exact fun z => nomatch z
        · cases e
      · cases e
  · unfold sortF at e
    cases h : sortD dx with
    | some r =>
      rw [h] at e; cases e
      refine .inl ?_
      have := (p_sortD (g := g)).ok F H x dx z Q s p h n
      rw [o.K]; exact this
    | none =>
      rw [h] at e
      have e : sortE dx = some z := e
      unfold sortE at e
      split at e
      · obtain ⟨ps, h1, e⟩ := Option.bind_eq_some_iff.mp e
        split at e
        · cases e
          exact .inr ⟨x, F, _, ps, rfl, s, p, h1, by assumption, fun ws p r hp => n.newO s (.lst r) p hp⟩
        · cases e
      · cases e
/-! ### min of a list of data -/
theorem toPy_inv {e : D} {p : PyData} (h : toPy e = some p) : match p with
    | .none => e = .non
    | .bool b => e = .bl b
    | .int i => e = .int i
    | .str x => e = .str x
    | .list ps => ∃ ds, e = .lst ds ∧ toPyAll ds = some ps
    | .tuple ps => ∃ ds, e = .tup ds ∧ toPyAll ds = some ps
    | .dict _ => True := by
  cases e with
  | non => rw [toPy] at h; cases h; rfl
  | bl b => rw [toPy] at h; cases h; rfl
  | int i => rw [toPy] at h; cases h; rfl
  | str x => rw [toPy] at h; cases h; rfl
  | lst ds =>
    rw [toPy] at h
    obtain ⟨q, e1, e2⟩ := Option.map_eq_some_iff.mp h
    cases e2; exact ⟨ds, rfl, e1⟩
  | tup ds =>
    rw [toPy] at h
    obtain ⟨q, e1, e2⟩ := Option.map_eq_some_iff.mp h
    cases e2; exact ⟨ds, rfl, e1⟩
  | dct t es =>
    cases t with
    | false =>
      rw [toPy] at h
      obtain ⟨q, e1, e2⟩ := Option.map_eq_some_iff.mp h
      cases e2; trivial
    | true => rw [toPy] at h; cases h
  | obj _ _ => rw [toPy] at h; cases h
  | res => rw [toPy] at h; cases h
  | scr _ => rw [toPy] at h; cases h
mutual
theorem toPy_inj : ∀ (p : PyData) {d e : D}, PySem.W.alike p p = true → toPy d = some p → toPy e = some p → d = e
  | .none, d, e, _, h, h' => by
    have a : d = .non := toPy_inv h
    have b : e = .non := toPy_inv h'
    rw [a, b]
  | .bool x, d, e, _, h, h' => by
    have a : d = .bl x := toPy_inv h
    have b : e = .bl x := toPy_inv h'
    rw [a, b]
  | .int x, d, e, _, h, h' => by
    have a : d = .int x := toPy_inv h
    have b : e = .int x := toPy_inv h'
    rw [a, b]
  | .str x, d, e, _, h, h' => by
    have a : d = .str x := toPy_inv h
    have b : e = .str x := toPy_inv h'
    rw [a, b]
  | .list ps, d, e, z, h, h' => by
    obtain ⟨ds, rfl, h1⟩ : ∃ ds, d = .lst ds ∧ toPyAll ds = some ps := toPy_inv h
    obtain ⟨es, rfl, h2⟩ : ∃ ds, e = .lst ds ∧ toPyAll ds = some ps := toPy_inv h'
    rw [toPyAll_inj ps (by rw [PySem.W.alike] at z; exact z) h1 h2]
  | .tuple ps, d, e, z, h, h' => by
    obtain ⟨ds, rfl, h1⟩ : ∃ ds, d = .tup ds ∧ toPyAll ds = some ps := toPy_inv h
    obtain ⟨es, rfl, h2⟩ : ∃ ds, e = .tup ds ∧ toPyAll ds = some ps := toPy_inv h'
    rw [toPyAll_inj ps (by rw [PySem.W.alike] at z; exact z) h1 h2]
  | .dict _, d, e, z, h, h' => by simp [PySem.W.alike] at z
theorem toPyAll_inj : ∀ (ps : List PyData) {ds es : List D}, PySem.W.alikeAll ps ps = true → toPyAll ds = some ps → toPyAll es = some ps → ds = es
  | [], ds, es, _, h, h' => by
    cases ds with
    | nil =>
      cases es with
      | nil => rfl
      | cons e es =>
        rw [toPyAll] at h'
        obtain ⟨p, e1, e⟩ := Option.bind_eq_some_iff.mp h'
        obtain ⟨q, e2, e⟩ := Option.map_eq_some_iff.mp e
        cases e
    | cons e es =>
      rw [toPyAll] at h
      obtain ⟨p, e1, e⟩ := Option.bind_eq_some_iff.mp h
      obtain ⟨q, e2, e⟩ := Option.map_eq_some_iff.mp e
      cases e
  | p :: ps, ds, es, z, h, h' => by
    rw [PySem.W.alikeAll, Bool.and_eq_true] at z
    cases ds with
    | nil => rw [toPyAll] at h; cases h
    | cons d ds =>
      cases es with
      | nil => rw [toPyAll] at h'; cases h'
      | cons e es =>
        rw [toPyAll] at h h'
        obtain ⟨p1, e1, h⟩ := Option.bind_eq_some_iff.mp h
        obtain ⟨q1, e2, h⟩ := Option.map_eq_some_iff.mp h
        obtain ⟨p2, f1, h'⟩ := Option.bind_eq_some_iff.mp h'
        obtain ⟨q2, f2, h'⟩ := Option.map_eq_some_iff.mp h'
        cases h
        cases h'
        rw [toPy_inj p z.1 e1 f1, toPyAll_inj ps z.2 e2 f2]
end
def minL (d : D) (ds : List D) : D := ds.foldl (fun a y => if PySem.W.dataLt (pyD y) (pyD a) = true then y else a) d
theorem minL_py : ∀ (ds : List D) (d : D), pyD (minL d ds) = PySem.W.minD (pyD d) (ds.map pyD)
  | [], d => rfl
  | e :: ds, d => by
    have h := minL_py ds (if PySem.W.dataLt (pyD e) (pyD d) = true then e else d)
    have e1 : minL d (e :: ds) = minL (if PySem.W.dataLt (pyD e) (pyD d) = true then e else d) ds := rfl
    have e2 : PySem.W.minD (pyD d) ((e :: ds).map pyD) = PySem.W.minD (if PySem.W.dataLt (pyD e) (pyD d) = true then pyD e else pyD d) (ds.map pyD) := rfl
    rw [e1, h, e2]
    congr 1
    split <;> rfl
theorem minL_mem : ∀ (ds : List D) (d : D), minL d ds ∈ d :: ds
  | [], d => by simp [minL]
  | e :: ds, d => by
    have h := minL_mem ds (if PySem.W.dataLt (pyD e) (pyD d) = true then e else d)
    have e1 : minL d (e :: ds) = minL (if PySem.W.dataLt (pyD e) (pyD d) = true then e else d) ds := rfl
    rw [e1]
    rcases List.mem_cons.mp h with h | h
    · rw [h]; split <;> simp
    · exact List.mem_cons_of_mem _ (List.mem_cons_of_mem _ h)
def okM (ps : List PyData) : Bool := (ps.all fun p => ps.all fun q => PySem.W.alike p q) && ((ps.all fun p => match p with | .none => false | _ => true) && decide (PyData.depthAll ps ≤ 40))
def minE : D → Option Vr
  | .lst (d :: ds) => (toPyAll (d :: ds)).bind fun ps => if okM ps = true then some (.sh (minL d ds)) else none
  | _ => none
theorem toPyAll_mem : ∀ {ds : List D} {ps : List PyData}, toPyAll ds = some ps → ∀ d ∈ ds, toPy d = some (pyD d)
  | [], _, _, d, hd => by simp at hd
  | e :: ds, _, h, d, hd => by
    rw [toPyAll] at h
    obtain ⟨p1, e1, h⟩ := Option.bind_eq_some_iff.mp h
    obtain ⟨q1, e2, h⟩ := Option.map_eq_some_iff.mp h
    rcases List.mem_cons.mp hd with z | z
    · subst z; unfold pyD; rw [e1]; rfl
    · exact toPyAll_mem e2 d z
theorem rv_get {F : Hp} : ∀ {vs : List V} {ds : List D} {us : List Value}, RepAll g F vs ds → Vals vs us → ∀ (i : Nat) (u : Value), us[i]? = some u → ∃ x d, ds[i]? = some d ∧ Rep g F x d ∧ RelV x u
  | _, _, _, .nil, r, i, u, e => by cases r; simp at e
  | _, _, _, .cons h t, r, i, u, e => by
    cases r with
    | cons r1 r2 =>
      cases i with
      | zero => simp at e; subst e; exact ⟨_, _, rfl, h, r1⟩
      | succ i => exact rv_get t r2 i u (by simpa using e)
def rMinE (g : G) : List V → Hp → VK → Prop := fun xs H Q => ∃ v F d ds ps, xs = [v] ∧ Sub F H ∧ Pk g F H v (.lst (d :: ds)) ∧ toPyAll (d :: ds) = some ps ∧ okM ps = true ∧
  ∀ w, Rep g F w (minL d ds) → Q w H
theorem call_minE {k : Nat} (o : XO g k X) : CallR X (.builtin "min") (rMinE g) := by
  intro pins s σ H xs us Q I r ⟨v, F, d, ds, ps, e, hS, hp, hx, hok, q⟩
  subst e
  obtain ⟨a, vs, rfl, e1, r1⟩ := hp.lst hS
  rw [Vals.ref1 r]
  obtain ⟨its, rv, hl, hz⟩ := I.list (SqL.of e1 : SqL X.K H a vs)
  obtain ⟨as, ra, _⟩ := reads_all I hS o.K o.sy r1 rv hx
  have em := toPyAll_map hx
  rw [List.map_cons] at em
  unfold okM at hok
  rw [Bool.and_eq_true, Bool.and_eq_true, List.all_eq_true, List.all_eq_true] at hok
  have hal : ∀ x ∈ ps, ∀ y ∈ ps, PySem.W.alike x y = true := fun x hx y hy => by have := hok.1 x hx; rw [List.all_eq_true] at this; exact this y hy
  have hn : ∀ x ∈ ps, x ≠ .none := fun x hx z => by have := hok.2.1 x hx; rw [z] at this; cases this
  have hd : PyData.depthAll ps ≤ 40 := of_decide_eq_true hok.2.2
  subst em
  refine PySem.W.min_list_data (I.ok.hd o.calm) hl.isList (by simpa using ra) ⟨hal, hn⟩ (by have := o.hu64; omega) fun i u h' tk bs hi hr keep => ?_
  have hi : its[i]? = some u := by simpa using hi
  obtain ⟨x, d', e3, rx, rel⟩ := rv_get r1 rv i u hi
  have hd' : d' ∈ d :: ds := List.mem_of_getElem? e3
  have f1 := toPyAll_mem hx d' hd'
  have f2 := toPyAll_mem hx _ (minL_mem ds d)
  obtain ⟨as', ra', _⟩ := reads_rep I hS o.K o.sy rx rel f1
  have ra2 := PyProof.Rows.Reads.keeps keep ra'
  have m1 : pyD d' ∈ pyD d :: ds.map pyD := by rw [← List.map_cons]; exact List.mem_map_of_mem hd'
  have m2 : pyD (minL d ds) ∈ pyD d :: ds.map pyD := by rw [← List.map_cons]; exact List.mem_map_of_mem (minL_mem ds d)
  rw [← minL_py] at hr
  have e4 := PySem.W.alike_unique _ _ _ _ _ (hal _ m1 _ m2) ra2 hr
  rw [← e4] at f2
  have e5 : d' = minL d ds := toPy_inj _ (hal _ m1 _ m1) f1 f2
  rw [e5] at rx
  exact ⟨x, H, I.kept keep, rel, q x rx⟩
theorem p_min1 : Op1 g min1 (fun x H Q => ∃ (a : Addr) (kvs : List (Key × V)) (ks : List Str), [x] = [.ref a] ∧ Rd H a (.dK kvs) ∧ kvs.map (·.1) = ks.map Sum.inr ∧ ks ≠ [] ∧ Q (.str (minS ks)) H) := by
  refine ⟨fun x z e i => ?_, fun F H x dx z Q s p e n => ?_⟩
  · unfold min1 at e
    split at e
    · obtain ⟨xs, _, e⟩ := Option.bind_eq_some_iff.mp e
      split at e
      · cases e
      · cases e; exact fun z => nomatch z
    · cases e
  · unfold min1 at e
    split at e
    · obtain ⟨xs, h1, e⟩ := Option.bind_eq_some_iff.mp e
      split at e
      · cases e
      · cases e
        obtain ⟨a, kvs, rfl, e1, r1⟩ := p.dK s
        exact ⟨a, kvs, xs, rfl, e1, keysStr_eq r1 h1, by assumption, n F _ H (Ext.refl s) (.str _)⟩
    · cases e
def minF (d : D) : Option Vr := match min1 d with
  | some r => some r
  | none => minE d
theorem d_minF {a : Expr} {ma : M g.R.S Vr} {p pos : Pos} {k : Nat} (o : XO g k X) (hg : Gl X "min") (hm : X.mg "min" = none) (ha : DE g X a ma) (he : starEach [a] X.env = (false, eval a X.env) :: starEach [] X.env := by rfl) : DE g X (.Call (.Name "min" p) [a] [] pos) (mOp1 minF ma) := by
  refine d_b1 (CallR.or (call_minTx o.calm) (call_minE o)) ⟨fun x z e i => ?_, fun F H x dx z Q s p e n => ?_⟩ (by decide +kernel) hg hm ha (by decide) (by decide) he rfl
  · unfold minF at e
    cases h : min1 x with
    | some r => rw [h] at e; cases e; exact (p_min1 (g := g)).no _ _ h i
    | none =>
      rw [h] at e
      have e : minE x = some z := e
      unfold minE at e
      split at e
      · obtain ⟨ps, _, e⟩ := Option.bind_eq_some_iff.mp e
        split at e
        · cases e; exact fun z => nomatch z
        · cases e
      · cases e
  · unfold minF at e
    cases h : min1 dx with
    | some r =>
      rw [h] at e; cases e
      exact .inl ((p_min1 (g := g)).ok F H x dx z Q s p h n)
    | none =>
      rw [h] at e
      have e : minE dx = some z := e
      unfold minE at e
      split at e
      · obtain ⟨ps, h1, e⟩ := Option.bind_eq_some_iff.mp e
        split at e
        · cases e
          exact .inr ⟨x, F, _, _, ps, rfl, s, p, h1, by assumption, fun w r => n.q s r⟩
        · cases e
      · cases e
end
end RW
namespace RW
open PySem PySem.Spec PyProof.Rows
open L2 (Key mixKind)
/-! ### x in d.values() -/
namespace InV
theorem entry_ci : entryFor table "proto.contains_iter" = some Builtin.«proto.contains_iter» := entryFor_of_tree (by kernel_rfl)
theorem plain_ci : plainId "proto.contains_iter" = true := by decide +kernel
theorem look_cn : typeLookup (.type "dict_values") "__contains__" = pure none := by rfl
variable {prog : Program} {w : World} {A : Around}
theorem loop {R : Result → Shared → Prop} {it : Addr} {fp wr : List Addr} {n : Nat} {P : Nat → Value → Prop} {St : Nat → Heap → Prop} (W : Walks prog w A.in1 it fp wr n P St) {x : Value} (s0 : Shared) (c : Nat → Bool) (hwr : ∀ b ∈ wr, s0.heap.get? b = none)
    (he : ∀ i v h' tk, i < n → P i v → (∀ b o, s0.heap.get? b = some o → h'.get? b = some o) → SeqAt.EqAt A.in1 { s0 with heap := h', toks := tk } v x (c i)) : ∀ (k i : Nat) (h : Heap) (tk : Nat), n - i = k → i ≤ n → St i h → (∀ b o, s0.heap.get? b = some o → h.get? b = some o) →
      (∀ h' tk', (∀ b o, s0.heap.get? b = some o → h'.get? b = some o) → R (.ok (.ret (.bool ((List.range' i (n - i)).any c)))) { s0 with heap := h', toks := tk' }) → codeAny (model prog w) A (.builtin "proto.contains_iter" ⟨[.ref it, x], []⟩) R { s0 with heap := h, toks := tk } := by
  intro k
  induction k with
  | zero =>
    intro i h tk hk hi st hx hR
    refine codeAny_builtin entry_ci (by
      rw [Around.under_plainId plain_ci _]
      show wpAny _ A.in1 (pyNext (.ref it) >>= _) _ _ _
      have ei : i = n := by omega
      subst ei
      refine wpAny_bind (W.done _ _ _ st fun h' tk' hm => ?_)
      show wpAny _ A.in1 (rule "in.by-iteration.exhausted" >>= fun _ => ret (Value.bool false)) _ _ _
      refine wpAny_bind (wpAny_rule ?_)
      refine wpAny_pure ?_
      have := hR h' tk' fun b o e => hm b o (fun z => by rw [hwr b z] at e; cases e) (hx b o e)
      simpa using this)
  | succ k ih =>
    intro i h tk hk hi st hx hR
    have lt : i < n := by omega
    refine codeAny_builtin entry_ci (by
      rw [Around.under_plainId plain_ci _]
      show wpAny _ A.in1 (pyNext (.ref it) >>= _) _ _ _
      refine wpAny_bind (W.item i _ _ _ lt st fun v h' tk' hP st' hm => ?_)
      have hx' : ∀ b o, s0.heap.get? b = some o → h'.get? b = some o := fun b o e => hm b o (fun z => by rw [hwr b z] at e; cases e) (hx b o e)
      have er : List.range' i (n - i) = i :: List.range' (i + 1) (n - (i + 1)) := by
        rw [show n - i = (n - (i + 1)) + 1 by omega, List.range'_succ]
      show wpAny _ A.in1 (eqBool v x >>= _) _ _ _
      refine wpAny_bind (he i v h' tk' lt hP hx' prog w _ _ ?_)
      cases hc : c i with
      | true =>
        show wpAny _ A.in1 (rule "in.by-iteration.found" >>= fun _ => ret (Value.bool true)) _ _ _
        refine wpAny_bind (wpAny_rule (wpAny_pure ?_))
        have := hR h' tk' hx'
        rw [er, List.any_cons, hc, Bool.true_or] at this
        exact this
      | false =>
        refine wpAny_pure ⟨plainId_quiet plain_ci _, ih (i + 1) h' tk' (by omega) lt st' hx' fun h2 tk2 hx2 => ?_⟩
        have := hR h2 tk2 hx2
        rw [er, List.any_cons, hc, Bool.false_or] at this
        exact this)
theorem in_vals {E : Value → Shared → Prop} {s : Shared} {Q : Value → Shared → Prop} {v d : Addr} {vs : List (Key × Value)} {ep : Nat} {x : Value} (hh : A.handled = none) (hv : s.heap.IsValuesView v d) (hm : s.heap.DictAt (mixKind prog w) d vs ep) (c : Nat → Bool)
    (he : ∀ i k u h' tk, vs[i]? = some (k, u) → (∀ b o, s.heap.get? b = some o → h'.get? b = some o) → SeqAt.EqAt A.in1 { s with heap := h', toks := tk } u x (c i))
    (hq : ∀ h' tk, (∀ b o, s.heap.get? b = some o → h'.get? b = some o) → Q (.bool ((List.range vs.length).any c)) { s with heap := h', toks := tk }) : wpAny (model prog w) A (compareOp .In x (.ref v)) Q E s := by
  have hlt : d < s.heap.objs.size := hm.lt_size
  show wpAny _ A (contains (.ref v) x >>= fun b => pure (Value.bool b)) Q E s
  refine wpAny_bind ?_
  unfold contains
  refine wpAny_holding ?_
  show wpAny _ A (specialOf (.ref v) "__contains__" >>= _) _ _ _
  refine wpAny_bind (wpAny_specialOf hv.typeIs look_cn ?_)
  show wpAny _ A (callSpecialUnlessNone? (.ref v) "__contains__" [x] _ >>= _) _ _ _
  refine wpAny_bind (wpAny_callSpecialUnlessNone?_none hv.typeIs look_cn ?_)
  show wpAny _ A (rule "in.by-iteration" >>= _) _ _ _
  refine wpAny_bind (wpAny_rule ?_)
  refine wpAny_bind (wpAny_tryCatch (wpAny_pyIter_values hv hm ?_))
  refine wpAny_bind (wpAny_runValue ?_)
  have hk : ∀ b o, s.heap.get? b = some o → (s.heap.push { cls := .type "dict_valueiterator", data := .fields #[.ref d, .int 0 0, .int vs.length 0, .int ep 0] }).get? b = some o := fun b o e => Heap.get?_push_of_some _ e
  refine loop (Walks.dictValues (knd := mixKind prog w) (A := A.in1) hh s.heap.objs.size d (Nat.ne_of_lt hlt) vs ep) s c (fun b hb => ?_) (fun i u h' tk hi hP hx => ?_) vs.length 0 _ s.toks (by omega) (Nat.zero_le _) ⟨⟨_, Heap.get?_push_size _ rfl, rfl, rfl⟩, hm.keep hk⟩ hk fun h' tk hx => ?_
  · rw [List.mem_singleton.mp hb]
    cases q : s.heap.get? s.heap.objs.size with
    | none => rfl
    | some o => exact absurd (Heap.lt_size q) (Nat.lt_irrefl _)
  · obtain ⟨k, hk⟩ := hP
    exact he i k u h' tk hk hx
  · rw [Nat.sub_zero, ← List.range_eq_range']
    exact wpAny_pure (wpAny_pure (hq h' tk hx))
end InV
end RW
namespace RW
open PySem L2
section
variable {g : G} {X : Cx}
/-- e.values() -/
def tVw (t : TE) : TE := fun σ H Q => t σ H fun x H1 => ∃ a kvs, x = .ref a ∧ Rd H1 a (.dK kvs) ∧ ∀ p, H1 p = none → Q (.ref p) (upd H1 p (viewO "dict_values" p a))
theorem pe_vw {o : Expr} {td : TE} {apos mpos : Pos} (hd : PE X o td) (hbase : attributeBase o "values" X.env (eval o X.env) = eval o X.env := by rfl) (hline : (apos.endLine == mpos.line) = true := by rfl) :
    PE X (.Call (.Attribute o "values" apos) [] [] mpos) (tVw td) := by
  refine ⟨fun pins s σ H Q I h => ?_⟩
  refine wpAny_Call_method0_late hbase hline (thn (hd.run pins s σ H _ I h) fun v s1 ⟨x, H1, I1, r1, a, kvs, ex, ha, q⟩ => ?_)
  subst ex
  obtain rfl : v = Value.ref a := r1
  obtain ⟨_, hsys, vs, rel, dof⟩ := dk_rd I1.hok ha
  obtain ⟨ep, dat⟩ := dof.dictAt
  have dat' := dat
  obtain ⟨ob, es, ho, ex, hdat, hko, hpr, hnd⟩ := dat'
  refine ⟨"dict", "dict.values", F.plainAttrs_dict, F.slot_dict_values, F.type_dict_values, ⟨ob, ho, ex.1⟩, fun b e => ?_, Calls.callWith_builtin rfl (PySem.evalArgs_none ?_)⟩
  · cases e
    exact ⟨ob, ho, ex.2.1⟩
  refine call_meetsIn F.slot_dict_values ⟨ob, ho, ex.1⟩ F.entry_dict_values (F.args_dict_values_1 _) (meets_dict_values (mixKind X.prog X.w) a hsys) ⟨⟨vs, dof⟩, ?_⟩
  exact ⟨.ref s1.heap.objs.size, _, I1.laid (t' := s1.toks) (fun b o q => Heap.get?_push_of_some _ q) (Nat.le_refl _) (viewO_ok (Heap.get?_push_size _ rfl)), rfl, q _ (I1.hok.fresh (Nat.le_refl _))⟩
def eqAny (x : D) : List (D × D) → Option Bool
  | [] => some false
  | e :: es => (deqF 8 e.2 x).bind fun b => (eqAny x es).map fun r => b || r
def inVw : D → D → Option Vr
  | x, .dct false es => (eqAny x es).map fun b => .sh (.bl b)
  | _, _ => none
def rInV (g : G) : R2 := fun x y H Q => ∃ F dx es p a b, y = .ref p ∧ H p = some (viewO "dict_values" p a) ∧ Sub F H ∧ Pk g F H x dx ∧ Pk g F H (.ref a) (.dct false es) ∧ eqAny dx es = some b ∧ Q (.bl b) H
theorem eqAny_at {x : D} : ∀ {es : List (D × D)} {b : Bool}, eqAny x es = some b → ∃ c : Nat → Bool, b = (List.range es.length).any c ∧ ∀ i e, es[i]? = some e → deqF 8 e.2 x = some (c i)
  | [], b, h => by cases h; exact ⟨fun _ => false, rfl, fun i e z => by simp at z⟩
  | e :: es, b, h => by
    rw [eqAny] at h
    obtain ⟨b0, h0, h⟩ := Option.bind_eq_some_iff.mp h
    obtain ⟨r, h1, h⟩ := Option.map_eq_some_iff.mp h
    obtain ⟨c, hc, hi⟩ := eqAny_at h1
    subst h
    refine ⟨fun i => match i with | 0 => b0 | i + 1 => c i, ?_, fun i z hz => ?_⟩
    · rw [List.length_cons, List.range_succ_eq_map, List.any_cons, List.any_map, hc]
      rfl
    · cases i with
      | zero => simp at hz; subst hz; exact h0
      | succ i => exact hi i z (by simpa using hz)
theorem RepK.at {F : Hp} : ∀ {kvs : List (Key × V)} {es : List (D × D)}, RepK g F kvs es → ∀ {i : Nat} {k : Key} {x : V}, kvs[i]? = some (k, x) → ∃ d, es[i]? = some (keyD k, d) ∧ Rep g F x d
  | _, _, .nil, i, k, x, e => by simp at e
  | _, _, .cons h t, i, k, x, e => by
    cases i with
    | zero => simp at e; obtain ⟨rfl, rfl⟩ := e; exact ⟨_, rfl, h⟩
    | succ i => obtain ⟨d, h1, h2⟩ := RepK.at t (i := i) (k := k) (x := x) (by simpa using e); exact ⟨d, by simpa using h1, h2⟩
theorem op_inV {k : Nat} (o : XO g k X) : OpR X (compareOp .In) (rInV g) := by
  intro pins s σ H x y v u Q I rx ry ⟨F, dx, es, p, a, b, ey, hp, hS, px, pa, hb, q⟩
  subst ey
  obtain rfl : u = Value.ref p := ry
  have hv : s.heap.get? p = some (DSub.viewOb "dict_values" a) := (show ObjOk X.prog X.w H s.heap p (viewO "dict_values" p a) from I.hok p _ hp).1
  obtain ⟨a', kvs, ea, hd, rk⟩ := pa.dK hS
  cases ea
  obtain ⟨_, hsys, vs, rel, dof⟩ := dk_rd I.hok hd
  obtain ⟨ep, dat⟩ := dof.dictAt
  obtain ⟨c, rfl, hc⟩ := eqAny_at hb
  have hl : vs.length = es.length := by rw [← rk.length]; exact (KV.length rel).symm
  refine InV.in_vals (I.ok.hd o.calm) ⟨_, hv, rfl, rfl⟩ dat c (fun i k u h' tk hi hk => ?_) fun h' tk hk => ?_
  · obtain ⟨z, h1, h2⟩ := KV.at' rel hi
    obtain ⟨d, h3, h4⟩ := rk.at h1
    exact (deq_run (I.kept (t' := tk) hk) hS o.K 8 d dx (c i) z x u v X.A.in1 (hc i _ h3) (.inl h4) px h2 rx (by have := o.hu64; simp; omega)).2
  · rw [hl]
    exact ⟨.bl _, H, I.kept (t' := tk) hk, rfl, q⟩
theorem tInV_of {mx mo : M g.R.S Vr} {σ : St} {H : Hp} {Q : VK} (h : tM g (mOp2 inVw mx mo) σ H Q) : tOp (rInV g) (tM g mx) (tVw (tM g mo)) σ H Q := by
  obtain ⟨F, s, res, s', I, e, k⟩ := h
  unfold mOp2 at e
  obtain ⟨p, e1, e⟩ := Option.bind_eq_some_iff.mp e
  obtain ⟨q, e2, e⟩ := Option.bind_eq_some_iff.mp e
  obtain ⟨x, e3, e⟩ := Option.bind_eq_some_iff.mp e
  obtain ⟨y, e4, e⟩ := Option.bind_eq_some_iff.mp e
  obtain ⟨z, e5, e⟩ := Option.map_eq_some_iff.mp e
  cases e
  refine tM_soft I e1 fun F1 v H1 I1 K1 w1 => tM_soft I1 e2 fun F2 u H2 I2 K2 w2 => ?_
  have p1 := (w1.keep K2.grow).pk I2 e3
  have p2 := w2.pk I2 e4
  unfold inVw at e5
  split at e5
  · rename_i es
    obtain ⟨b, hb, rfl⟩ := Option.map_eq_some_iff.mp e5
    obtain ⟨a, kvs, rfl, hd, rk⟩ := p2.dK I2.sub
    refine ⟨a, kvs, rfl, hd, fun p hp => ?_⟩
    have x2 : Ext F2 H2 F2 (upd H2 p (viewO "dict_values" p a)) := Ext.tmp I2.sub hp
    have n := fin_of I2 (K1.trans K2 I2) (z := .sh (.bl b)) (fun i z => nomatch z) k
    exact ⟨F2, _, es, p, a, b, rfl, upd_same, x2.sub, p1.ext x2, p2.ext x2, hb, n F2 _ _ x2 (.bl b)⟩
  · cases e5
theorem t_inV {k : Nat} {a o : Expr} {mx mo : M g.R.S Vr} {apos mpos pos : Pos} (xo : XO g k X) (ha : DE g X a mx) (ho : DE g X o mo) (hm : behindInMarks .In (.Call (.Attribute o "values" apos) [] [] mpos) = false := by rfl) (hbase : attributeBase o "values" X.env (eval o X.env) = eval o X.env := by rfl) (hline : (apos.endLine == mpos.line) = true := by rfl) :
    DT g X (.Compare a [.In] [.Call (.Attribute o "values" apos) [] [] mpos] pos) (mOp2 inVw mx mo) :=
  PT.imp (pt_cmpR (op_inV xo) ha (pe_vw ho hbase hline) hm) fun _ _ _ h => tTest_of (t := tOp (rInV g) (tM g mx) (tVw (tM g mo))) (fun _ _ _ h => tInV_of h) h
/-! ### max of a list of ints, of the values of a dict -/
def intsOf : List D → Option (List Int)
  | [] => some []
  | .int i :: ds => (intsOf ds).map fun xs => i :: xs
  | _ => none
theorem intsOf_eq {F : Hp} : ∀ {ds : List D} {xs : List Int} {vs : List V}, intsOf ds = some xs → RepAll g F vs ds → vs = xs.map V.int
  | [], _, _, h, .nil => by cases h; rfl
  | .int i :: ds, _, _, h, .cons r t => by
    obtain ⟨ys, e1, e2⟩ := Option.map_eq_some_iff.mp (show (intsOf ds).map (fun xs => i :: xs) = some _ from h)
    subst e2
    rw [intsOf_eq e1 t]
    have : ∀ {v : V}, Rep g F v (.int i) → v = .int i := fun r => by
      cases r with
      | int => rfl
      | ref _ z => cases z
    rw [this r]; rfl
def maxI : List Int → Int
  | [] => 0
  | n :: ns => ns.foldl max n
theorem foldl_max : ∀ (ns : List Int) (n : Int), (n ≤ ns.foldl max n ∧ ∀ y ∈ ns, y ≤ ns.foldl max n) ∧ (ns.foldl max n = n ∨ ns.foldl max n ∈ ns)
  | [], n => ⟨⟨Int.le_refl _, fun y hy => by simp at hy⟩, .inl rfl⟩
  | m :: ns, n => by
    obtain ⟨⟨h1, h2⟩, h3⟩ := foldl_max ns (max n m)
    rw [List.foldl_cons]
    refine ⟨⟨by omega, fun y hy => ?_⟩, ?_⟩
    · rcases List.mem_cons.mp hy with e | e
      · subst e; omega
      · exact h2 y e
    · rcases h3 with e | e
      · rw [e]
        by_cases z : n ≤ m
        · right; rw [show max n m = m by omega]; exact List.mem_cons_self
        · left; omega
      · exact .inr (List.mem_cons_of_mem _ e)
theorem maxI_mem {ns : List Int} (h : 0 < ns.length) : maxI ns ∈ ns := by
  cases ns with
  | nil => simp at h
  | cons n ns =>
    rcases (foldl_max ns n).2 with e | e
    · show ns.foldl max n ∈ _; rw [e]; exact List.mem_cons_self
    · exact List.mem_cons_of_mem _ e
theorem maxI_le {ns : List Int} : ∀ y ∈ ns, y ≤ maxI ns := by
  intro y hy
  cases ns with
  | nil => simp at hy
  | cons n ns =>
    rcases List.mem_cons.mp hy with e | e
    · subst e; exact (foldl_max ns y).1.1
    · exact (foldl_max ns n).1.2 y e
def max1 : D → Option Vr
  | .lst ds => (intsOf ds).bind fun ns => if 0 < ns.length then some (.sh (.int (maxI ns))) else none
  | _ => none
theorem d_max1 {a : Expr} {ma : M g.R.S Vr} {p pos : Pos} {k : Nat} (o : XO g k X) (hg : Gl X "max") (hm : X.mg "max" = none) (ha : DE g X a ma) (he : starEach [a] X.env = (false, eval a X.env) :: starEach [] X.env := by rfl) : DE g X (.Call (.Name "max" p) [a] [] pos) (mOp1 max1 ma) := by
  refine d_b1 (cr_max o.calm) ⟨fun x z e i => ?_, fun F H x dx z Q s p e n => ?_⟩ (by decide +kernel) hg hm ha (by decide) (by decide) he rfl
  · unfold max1 at e
    split at e
    · obtain ⟨ps, _, e⟩ := Option.bind_eq_some_iff.mp e
      split at e
      · cases e; exact fun z => nomatch z
      · cases e
    · cases e
  · unfold max1 at e
    split at e
    · obtain ⟨ns, h1, e⟩ := Option.bind_eq_some_iff.mp e
      split at e
      · rename_i h0
        cases e
        obtain ⟨a, vs, rfl, e1, r1⟩ := p.lst s
        rw [intsOf_eq h1 r1] at e1
        refine ⟨a, ns, rfl, SqL.of e1, h0, fun m h2 h3 => ?_⟩
        have : m = maxI ns := Int.le_antisymm (maxI_le m h2) (h3 _ (maxI_mem h0))
        rw [this]
        exact n.q s (.int _)
      · cases e
    · cases e
/-! ### xs.index(x), texts -/
def idxOfS (x : Str) : List Str → Option Nat
  | [] => none
  | y :: ys => if y = x then some 0 else (idxOfS x ys).map (· + 1)
theorem idxOfS_at {x : Str} : ∀ {ys : List Str} {j : Nat}, idxOfS x ys = some j → ys[j]? = some x ∧ ∀ m, m < j → ys[m]? ≠ some x
  | [], _, h => by cases h
  | y :: ys, j, h => by
    rw [idxOfS] at h
    split at h
    · rename_i e
      cases h; subst e
      exact ⟨rfl, fun m hm => absurd hm (Nat.not_lt_zero _)⟩
    · rename_i e
      obtain ⟨k, h1, rfl⟩ := Option.map_eq_some_iff.mp h
      obtain ⟨h2, h3⟩ := idxOfS_at h1
      refine ⟨by simpa using h2, fun m hm => ?_⟩
      cases m with
      | zero => simpa using e
      | succ m => simpa using h3 m (by omega)
def indexD : D → D → Option Vr
  | .lst ds, .str x => (strsOf ds).bind fun ys => (idxOfS x ys).map fun (j : Nat) => .sh (.int (j : Int))
  | _, _ => none
def mIndex {R : Type} (ma mb : M R Vr) : M R Vr := fun s => (ma s).bind fun p => (pk (soft p.1) p.2).bind fun d0 => if isLst d0 = true then (mb p.2).bind fun q => (pk (soft p.1) q.2).bind fun x => (pk (soft q.1) q.2).bind fun y => (indexD x y).map fun z => (z, q.2) else none
theorem mt_ixS : MtR X "list.index" (fun x xs H Q => ∃ (a : Addr) (ys : List Str) (z : Str) (j : Nat), x = .ref a ∧ xs = [.str z] ∧ SqL X.K H a (ys.map V.str) ∧ ys[j]? = some z ∧ (∀ m, m < j → ys[m]? ≠ some z) ∧ Q (.int (j : Nat)) H) := by
  intro pins s σ H x xs v us Q I rx rxs ⟨a, ys, z, j, ex, exs, hs, h1, h2, q⟩
  refine mt_index pins s σ H x xs v us Q I rx rxs ⟨a, ys.map V.str, .str z, j, .str z, ex, exs, hs, rfl, flat_strs ys, ?_, ?_, fun m z' hm hz => ?_, q⟩
  · rw [List.getElem?_map, h1]; rfl
  · simp [eqV]
  · rw [List.getElem?_map] at hz
    obtain ⟨y, hy, rfl⟩ := Option.map_eq_some_iff.mp hz
    have : y ≠ z := fun e => h2 m hm (by rw [hy, e])
    simp [eqV, this]
theorem d_index {o e : Expr} {ma mb : M g.R.S Vr} {apos pos : Pos} {k : Nat} (xo : XO g k X) (ho : DE g X o ma) (he : DE g X e mb) (hbase : attributeBase o "index" X.env (eval o X.env) = eval o X.env := by rfl)
    (hfew : ((backTo pos (starEach [e] X.env)).all (fun x => !x.1) && (backToKw pos (keywordEach [] X.env)).all (fun x => x.1.isSome)
      && decide ([e].length + ([] : List Keyword).length + (if ([] : List Keyword).isEmpty then 0 else 1) < 30)) = true := by rfl)
    (hline : (apos.endLine == pos.line) = true := by rfl) (hs : starEach [e] X.env = (false, eval e X.env) :: starEach [] X.env := by rfl) (hplain : (backTo pos (starEach [] X.env)).any (·.1) = false := by rfl) : DE g X (.Call (.Attribute o "index" apos) [e] [] pos) (mIndex ma mb) := by
  refine PE.imp (pe_bm PySem.F.plainAttrs_list PySem.F.slot_list_index PySem.F.type_list_index mt_ixS ho (pa_cons he pa_nil hs) hbase hfew hline hs hplain) fun σ H Q ⟨F, s, res, s', I, e, k⟩ => ?_
  unfold mIndex at e
  obtain ⟨p, e1, e⟩ := Option.bind_eq_some_iff.mp e
  obtain ⟨d0, e0, e⟩ := Option.bind_eq_some_iff.mp e
  split at e
  · rename_i hl
    obtain ⟨q, e2, e⟩ := Option.bind_eq_some_iff.mp e
    obtain ⟨x, e3, e⟩ := Option.bind_eq_some_iff.mp e
    obtain ⟨y, e4, e⟩ := Option.bind_eq_some_iff.mp e
    obtain ⟨z, e5, e⟩ := Option.map_eq_some_iff.mp e
    cases e
    refine tM_soft I e1 fun F1 v H1 I1 K1 w1 => ⟨ty_lst I1.sub (w1.pk I1 e0) hl, ?_⟩
    refine tM_soft I1 e2 fun F2 u H2 I2 K2 w2 => ?_
    have p1 := (w1.keep K2.grow).pk I2 e3
    have p2 := w2.pk I2 e4
    unfold indexD at e5
    split at e5
    · obtain ⟨ys, h1, e5⟩ := Option.bind_eq_some_iff.mp e5
      obtain ⟨j, h2, rfl⟩ := Option.map_eq_some_iff.mp e5
      obtain ⟨h3, h4⟩ := idxOfS_at h2
      obtain ⟨a, vs, rfl, ea, r1⟩ := p1.lst I2.sub
      rw [strsOf_eq h1] at r1
      rw [rep_strs r1] at ea
      obtain rfl := p2.str
      have n := fin_of I2 (K1.trans K2 I2) (z := .sh (.int (j : Int))) (fun i z => nomatch z) k
      exact ⟨a, ys, _, j, rfl, rfl, SqL.of ea, h3, h4, n F2 _ _ (Ext.refl I2.sub) (.int _)⟩
    · cases e5
  · cases e
end
end RW
set_option maxHeartbeats 4000000
/-! sorted(set(xs)) of texts -/
namespace RW.SetTx
open PySem PySem.Spec PyProof.Rows
section
variable {α : Type} [DecidableEq α]
theorem nd_perm : ∀ {w V : List α}, w.Nodup → (∀ x ∈ w, x ∈ V) → V.length ≤ w.length → w.Perm V
  | [], V, _, _, hl => by
    have : V = [] := List.length_eq_zero_iff.mp (Nat.le_zero.mp hl)
    rw [this]
  | x :: w, V, hn, hs, hl => by
    obtain ⟨h1, h2⟩ := List.nodup_cons.mp hn
    have hx := hs x List.mem_cons_self
    have := nd_perm (w := w) (V := V.erase x) h2 (fun y hy => (List.mem_erase_of_ne (fun e => h1 (by rw [← e]; exact hy))).mpr (hs y (List.mem_cons_of_mem _ hy))) (by
      rw [List.length_erase_of_mem hx]
      rw [List.length_cons] at hl; omega)
    exact (this.cons x).trans (List.perm_cons_erase hx).symm
end
section
variable {P : Program} {w : World} {A : Around} {E : Value → Shared → Prop} {s : Shared} {a : Addr}
/-- a set that holds just the texts xs, laid so that it can be walked -/
structure Tr (P : Program) (w : World) (h : Heap) (a : Addr) (xs : List Str) (D : Froz.SD) (l : List Str) : Prop where
  get : h.get? a = some (Froz.sObj "set" D)
  ok : Froz.TxOk P w D l
  nd : l.Nodup
  mem : ∀ k, k ∈ l ↔ k ∈ xs
  ris : L2.Ris D.2.2.place.toList
  led : w.params.followText "set-order" = true ∨ D.2.2.led = true
def TrS (P : Program) (w : World) (h : Heap) (a : Addr) (xs : List Str) : Prop := ∃ D l, Tr P w h a xs D l
theorem TrS.at {h h' : Heap} {xs : List Str} (R : TrS P w h a xs) (k : ∀ o, h.get? a = some o → h'.get? a = some o) : TrS P w h' a xs :=
  let ⟨D, l, r⟩ := R
  ⟨D, l, k _ r.get, r.ok, r.nd, r.mem, r.ris, r.led⟩
end
end RW.SetTx
namespace RW
open PySem L2 PyProof.Rows
section
variable {g : G} {X : Cx}
/-! ### dicts compared -/
def hitD (b : List (D × D)) : List (D × D) → Option Bool
  | [] => some true
  | p :: ps => match getE b p.1 with
    | none => some false
    | some y => (deqF 30 p.2 y).bind fun e => (hitD b ps).map fun r => e && r
def deqK (a b : List (D × D)) : Option Bool := (hitD b a).map fun r => decide (a.length = b.length) && r
def eqE : D → D → Option Vr
  | .dct false a, .dct false b => (deqK a b).map fun r => .sh (.bl r)
  | x, y => eqD x y
def neE : D → D → Option Vr
  | .dct false a, .dct false b => (deqK a b).map fun r => .sh (.bl (!r))
  | x, y => neD x y
theorem hits_of {pins : List (Addr × Obj)} {σ : L2.St} {F H : Hp} {s : Shared} (I : L2.Inv X pins σ H s) (hS : Sub F H) (hK : X.K = g.K) {A : Around} (hu : A.units + 30 < cLine) {kb : List (Key × V)} {vb : List (Key × Value)} {eb : List (D × D)} (rb : RepK g F kb eb) (wb : KV kb vb) :
    ∀ {ka : List (Key × V)} {va : List (Key × Value)} {ea : List (D × D)} {r : Bool}, RepK g F ka ea → KV ka va → hitD eb ea = some r → PySem.W.KeqHits A s vb va r
  | _, _, _, _, .nil, w, h => by
    cases w
    cases h
    exact .nil
  | _, _, _, r, @RepK.cons _ _ k v kvs d es hv hr, w, h => by
    cases w with
    | cons w1 w2 =>
      rename_i q qs
      obtain ⟨k', u⟩ := q
      obtain ⟨ek, rv⟩ := w1
      have ek : k = k' := ek
      subst ek
      have rv : RelV v u := rv
      have rval := wb.val k
      obtain ⟨v1, v2⟩ := RepK.val (g := g) k rb
      unfold hitD at h
      split at h
      · rename_i hn
        have hn : getE eb (keyD k) = none := hn
        have hz := v2 hn
        cases h
        rw [hz] at rval
        refine .miss ?_
        cases hh : valueAt vb k with
        | none => rfl
        | some y => rw [hh] at rval; exact rval.elim
      · rename_i y hn
        have hn : getE eb (keyD k) = some y := hn
        obtain ⟨e, h1, h⟩ := Option.bind_eq_some_iff.mp h
        obtain ⟨r', h2, h⟩ := Option.map_eq_some_iff.mp h
        obtain ⟨x, hx, rx⟩ := v1 y hn
        rw [hx] at rval
        obtain ⟨u', hu', ru'⟩ := rval.some_of
        rw [← h]
        refine .hit hu' (deq_run I hS hK 30 d y e v x u u' A h1 (.inl hv) (.inl rx) rv ru' hu).2 (hits_of I hS hK hu rb wb hr w2 h2)
def rEqK (g : G) (f : Bool → Bool) : R2 := fun x y H Q => ∃ F a b r, Sub F H ∧ Pk g F H x (.dct false a) ∧ Pk g F H y (.dct false b) ∧ deqK a b = some r ∧ Q (.bl (f r)) H
theorem rep_len {F : Hp} : ∀ {kvs : List (Key × V)} {es : List (D × D)}, RepK g F kvs es → kvs.length = es.length
  | _, _, .nil => rfl
  | _, _, .cons _ t => by rw [List.length_cons, List.length_cons, rep_len t]
theorem op_eqK {k : Nat} (o : XO g k X) : OpR X (compareOp .Eq) (rEqK g fun b => b) := by
  intro pins s σ H x y v u Q I rx ry ⟨F, a, b, r, hS, p, q, h, kq⟩
  obtain ⟨pa, ka, rfl, e1, r1⟩ := p.dK hS
  obtain ⟨pb, kb, rfl, e2, r2⟩ := q.dK hS
  obtain rfl : v = Value.ref pa := rx
  obtain rfl : u = Value.ref pb := ry
  obtain ⟨_, ya, va, ra, da⟩ := dk_rd I.hok e1
  obtain ⟨_, yb, vb, rb, db⟩ := dk_rd I.hok e2
  unfold deqK at h
  obtain ⟨r', h1, h2⟩ := Option.map_eq_some_iff.mp h
  have hu := o.hu64
  refine PySem.W.keq_eq (knd := mixKind X.prog X.w) (r := r') ya yb da db (by omega) (fun _ => hits_of I hS o.K (by show X.A.units + 1 + 30 < cLine; omega) r2 rb r1 ra h1) ⟨.bl r, H, I, ?_, kq⟩
  rw [← h2, ← ra.length, ← rb.length, rep_len r1, rep_len r2]
  show Value.bool _ = Value.bool _
  congr 1
theorem op_neK {k : Nat} (o : XO g k X) : OpR X (compareOp .NotEq) (rEqK g fun b => !b) := by
  intro pins s σ H x y v u Q I rx ry ⟨F, a, b, r, hS, p, q, h, kq⟩
  obtain ⟨pa, ka, rfl, e1, r1⟩ := p.dK hS
  obtain ⟨pb, kb, rfl, e2, r2⟩ := q.dK hS
  obtain rfl : v = Value.ref pa := rx
  obtain rfl : u = Value.ref pb := ry
  obtain ⟨_, ya, va, ra, da⟩ := dk_rd I.hok e1
  obtain ⟨_, yb, vb, rb, db⟩ := dk_rd I.hok e2
  unfold deqK at h
  obtain ⟨r', h1, h2⟩ := Option.map_eq_some_iff.mp h
  have hu := o.hu64
  refine PySem.W.keq_ne (knd := mixKind X.prog X.w) (r := r') ya yb da db (by omega) (fun _ => hits_of I hS o.K (by show X.A.units + 1 + 30 < cLine; omega) r2 rb r1 ra h1) ⟨.bl (!r), H, I, ?_, kq⟩
  rw [← h2, ← ra.length, ← rb.length, rep_len r1, rep_len r2]
  show Value.bool _ = Value.bool _
  congr 1
theorem p_eqE : Op2 g eqE (fun x y H Q => rEqL g x y H Q ∨ rEqK g (fun b => b) x y H Q) := by
  refine ⟨fun x y z e i => ?_, fun F H x y dx dy z Q s p q e n => ?_⟩
  · unfold eqE at e
    split at e
    · obtain ⟨b, _, rfl⟩ := Option.map_eq_some_iff.mp e
      exact fun z => nomatch z
    · exact p_eq (g := g).no _ _ _ e i
  · unfold eqE at e
    split at e
    · obtain ⟨b, h, rfl⟩ := Option.map_eq_some_iff.mp e
      exact .inr ⟨F, _, _, b, s, p, q, h, n F _ H (Ext.refl s) (.bl b)⟩
    · exact .inl ((p_eq (g := g)).ok F H x y dx dy z Q s p q e n)
theorem p_neE : Op2 g neE (fun x y H Q => rNeL g x y H Q ∨ rEqK g (fun b => !b) x y H Q) := by
  refine ⟨fun x y z e i => ?_, fun F H x y dx dy z Q s p q e n => ?_⟩
  · unfold neE at e
    split at e
    · obtain ⟨b, _, rfl⟩ := Option.map_eq_some_iff.mp e
      exact fun z => nomatch z
    · exact p_ne (g := g).no _ _ _ e i
  · unfold neE at e
    split at e
    · obtain ⟨b, h, rfl⟩ := Option.map_eq_some_iff.mp e
      exact .inr ⟨F, _, _, b, s, p, q, h, n F _ H (Ext.refl s) (.bl (!b))⟩
    · exact .inl ((p_ne (g := g)).ok F H x y dx dy z Q s p q e n)
theorem d_eqE {a b : Expr} {ma mb : M g.R.S Vr} {pos : Pos} {k : Nat} (o : XO g k X) (ha : DE g X a ma) (hb : DE g X b mb) : DE g X (.Compare a [.Eq] [b] pos) (mOp2 eqE ma mb) := d_cmp (OpR.or (op_eqL o) (op_eqK o)) p_eqE ha hb (nobehind _ (by decide) (by decide))
theorem t_neE {a b : Expr} {ma mb : M g.R.S Vr} {pos : Pos} {k : Nat} (o : XO g k X) (ha : DE g X a ma) (hb : DE g X b mb) : DT g X (.Compare a [.NotEq] [b] pos) (mOp2 neE ma mb) := t_cmp (OpR.or (op_neL o) (op_neK o)) p_neE ha hb (nobehind _ (by decide) (by decide))
end
end RW
namespace RW
open PySem L2 PyProof.Rows
section
variable {g : G} {X : Cx}
/-! ### xs[::-1] -/
def revD : D → Option Vr
  | .lst ds => some (.tmp (.lst ds.reverse))
  | _ => none
theorem rep_app {F : Hp} : ∀ {xs ys : List V} {ds es : List D}, RepAll g F xs ds → RepAll g F ys es → RepAll g F (xs ++ ys) (ds ++ es)
  | _, _, _, _, .nil, h => h
  | _, _, _, _, .cons a b, h => .cons a (rep_app b h)
theorem rep_rev {F : Hp} : ∀ {xs : List V} {ds : List D}, RepAll g F xs ds → RepAll g F xs.reverse ds.reverse
  | _, _, .nil => .nil
  | _, _, .cons a b => by
    rw [List.reverse_cons, List.reverse_cons]
    exact rep_app (rep_rev b) (.cons a .nil)
theorem d_rev {e : Expr} {ma : M g.R.S Vr} {k : Nat} {j : Nat} {p1 p2 p3 pos : Pos} (o : XO g k X) (he : DE g X e ma) : DE g X (.Subscript e (.Slice none none (some (.UnaryOp .USub (.Constant (.int 1) j p1) p2)) p3) pos) (mOp1 revD ma) := by
  refine PE.imp (pe_revL he) fun σ H Q h => tOp1_of (r := fun x H1 Q => ∃ a xs, x = .ref a ∧ SqL X.K H1 a xs ∧ ∀ p, H1 p = none → Q (.ref p) (upd H1 p (.lst xs.reverse))) ⟨fun x z e i => ?_, fun F H x dx z Q s p e n => ?_⟩ h
  · unfold revD at e
    split at e
    · cases e; exact fun z => nomatch z
    · cases e
  · unfold revD at e
    split at e
    · cases e
      obtain ⟨a, xs, rfl, e1, r1⟩ := p.lst s
      exact ⟨a, xs, rfl, SqL.of e1, fun p hp => n.newO s (.lst (rep_rev r1)) p hp⟩
    · cases e
/-! ### sorted of a tuple of texts -/
theorem call_sortT (hcalm : X.calm = true) : CallR X (.builtin "sorted") (fun xs H Q => ∃ (a : Addr) (ks : List Str), xs = [.ref a] ∧ SqT X.K H a (ks.map V.str) ∧ ks.length < 64 ∧
    ∀ ys p, ys.Perm ks → sortedS ys = true → H p = none → Q (.ref p) (upd H p (.lst (ys.map V.str)))) := by
  intro pins s σ H xs us Q I r q
  obtain ⟨a, ks, ex, hq, h64, q⟩ := q
  subst ex
  rw [Vals.ref1 r]
  obtain ⟨its, rv, pl, hz⟩ := I.tuple hq
  obtain ⟨⟨oc, od, dt, sl⟩, ho, h1, n, h2⟩ := pl
  simp only at h1 h2
  subst h1 h2
  have hS : StrsAre its ks := strsAre_of rv
  have hal : its.length = ks.length := by have := rv.length; rw [List.length_map] at this; exact this.symm
  refine Calls.call_function_entry PyProof.Rows.kind_sorted PyProof.Rows.plain_sorted PyProof.Rows.entry_sorted (PyProof.Rows.args_sorted1 _) ?_
  unfold Builtin.«sorted»
  refine wpAny_bind (m := checkCount "sorted" 1 1 _) (wpAny_pure ?_)
  refine wpAny_bind (wpAny_collect_seq (A := X.A.in1) a (.inr rfl) ho rfl rfl (fun h' hk => ?_) (by rw [List.size_toArray, hal, sizeLine_eq]; omega))
  have I1 : L2.Inv X pins σ H { s with heap := h' } := I.kept (t' := s.toks) hk
  refine wpAny_bind (wpAny_newList ?_ (by rw [List.toList_toArray, hal, sizeLine_eq]; omega))
  simp only [List.toList_toArray]
  have hoL : (h'.push (seqObj "list" its.toArray 0)).get? h'.objs.size = some (seqObj "list" its.toArray 0) := Heap.get?_push_size _ rfl
  show wpAny _ _ _ _ _ { s with heap := h'.push (seqObj "list" its.toArray 0) }
  refine wpAny_bind (wpAny_holding (wpAny_call_entry PyProof.Rows.slot_list_sort ⟨_, hoL, rfl⟩ PyProof.Rows.entry_list_sort
    (list_sort_treeK strKind_oneLt (s := { s with heap := h'.push (seqObj "list" its.toArray 0) }) hoL hS.keysOf (fun v₁ v₂ rest e => keyKind_strs (by rw [← e]; exact hS)) (by rw [hal]; exact h64) fun st' hp hs => ⟨_, rfl, ?_⟩)
    (PyProof.Rows.args_list_sort _)))
  obtain ⟨ys, g1, g2, g3⟩ := sorted_out_str hS hp hs
  obtain ⟨e', he'⟩ := PyProof.Rows.sortedHeap_at (vs := its) (out := (arrOf st').map (·.2)) hoL
  have hlen : (ys.map V.str).length ≤ sizeLine := by
    rw [List.length_map, g2.length_eq, sizeLine_eq]; omega
  refine wpAny_pure ⟨_, rfl, .ref h'.objs.size, upd H h'.objs.size (.lst (ys.map V.str)), I1.laid (t' := s.toks) (fun b u e => ?_) (Nat.le_refl _)
    (show ObjOk X.prog X.w _ _ _ (.lst (ys.map V.str)) from ⟨hlen, ((arrOf st').map (·.2)).toList, e', vals_of_strs g1, by rw [Array.toArray_toList]; exact he'⟩), rfl, q ys _ g2 g3 (I1.hok.fresh (Nat.le_refl _))⟩
  have hb : b < h'.objs.size := Heap.lt_size e
  rw [PyProof.Rows.sortedHeap_old (Nat.ne_of_lt hb) (by rw [size_push']; exact Nat.lt_succ_of_lt hb)]
  exact Heap.get?_push_of_some _ e
def sortTp : D → Option Vr
  | .tup ds => (strsOf ds).bind fun ks => if ks.length < 64 then some (.tmp (.lst ((sortS ks).map D.str))) else none
  | _ => none
end
end RW
namespace RW
open PySem L2 PyProof.Rows
section
variable {g : G} {X : Cx}
/-- sorted: as sortF, and tuples of texts -/
def sortG (d : D) : Option Vr := match sortTp d with
  | some r => some r
  | none => sortF d
theorem d_sortG {a : Expr} {ma : M g.R.S Vr} {p pos : Pos} {k : Nat} (o : XO g k X) (hg : Gl X "sorted") (hm : X.mg "sorted" = none) (ha : DE g X a ma) (he : starEach [a] X.env = (false, eval a X.env) :: starEach [] X.env := by rfl) : DE g X (.Call (.Name "sorted" p) [a] [] pos) (mOp1 sortG ma) := by
  refine d_b1 (CallR.or (call_sortT o.calm) (CallR.or (CallR.or cr_sortedS (call_sortedD o.calm)) (call_sortE o))) ⟨fun x z e i => ?_, fun F H x dx z Q s p e n => ?_⟩ (by decide +kernel) hg hm ha (by decide) (by decide) he rfl
  · unfold sortG at e
    split at e
    · rename_i r h
      cases e
      unfold sortTp at h
      split at h
      · obtain ⟨ks, _, h⟩ := Option.bind_eq_some_iff.mp h
        split at h
        · cases h; exact fun z => nomatch z
        · cases h
      · cases h
    · unfold sortF at e
      cases h : sortD x with
      | some r => rw [h] at e; cases e; exact p_sortD (g := g).no _ _ h i
      | none =>
        rw [h] at e
        have e : sortE x = some z := e
        unfold sortE at e
        split at e
        · obtain ⟨ps, _, e⟩ := Option.bind_eq_some_iff.mp e
          split at e
          · cases e; exact fun z => nomatch z
          · cases e
        · cases e
  · unfold sortG at e
    split at e
    · rename_i r h
      cases e
      left
      unfold sortTp at h
      split at h
      · obtain ⟨ks, h1, h⟩ := Option.bind_eq_some_iff.mp h
        split at h
        · cases h
          obtain ⟨a, vs, rfl, e1, r1⟩ := p.tup s
          rw [strsOf_eq h1] at r1
          rw [rep_strs r1] at e1
          refine ⟨a, ks, rfl, by rw [o.K]; exact e1, by assumption, fun ys p hp hs hn => ?_⟩
          rw [sortS_eq hp hs]
          exact n.newO s (.lst (all_strs _)) p hn
        · cases h
      · cases h
    · right
      unfold sortF at e
      cases h : sortD dx with
      | some r =>
        rw [h] at e; cases e
        refine .inl ?_
        have := (p_sortD (g := g)).ok F H x dx z Q s p h n
        rw [o.K]; exact this
      | none =>
        rw [h] at e
        have e : sortE dx = some z := e
        unfold sortE at e
        split at e
        · obtain ⟨ps, h1, e⟩ := Option.bind_eq_some_iff.mp e
          split at e
          · cases e
            exact .inr ⟨x, F, _, ps, rfl, s, p, h1, by assumption, fun ws p r hp => n.newO s (.lst r) p hp⟩
          · cases e
        · cases e
end
end RW
namespace RW
open PySem L2 PyProof.Rows StX
/-! ### a module's tuple of texts -/
def strsB : List Value → List Str → Bool
  | [], [] => true
  | .str y _ :: vs, x :: xs => decide (y = x) && strsB vs xs
  | _, _ => false
def tupB (K : PySem.W.Frag) (a : Addr) (xs : List Str) : Bool := match K.lookup a with
  | some o => decide (o.cls = .type "tuple") && (match o.data with
    | .seq its _ => decide (its.size ≤ sizeLine) && strsB its.toList xs
    | _ => false)
  | none => false
theorem strsB_ok : ∀ {vs : List Value} {xs : List Str}, strsB vs xs = true → Vals (xs.map V.str) vs
  | [], [], _ => .nil
  | [], _ :: _, h => by cases h
  | v :: vs, [], h => by cases v <;> cases h
  | v :: vs, x :: xs, h => by
    cases v with
    | str y t =>
      have h : (decide (y = x) && strsB vs xs) = true := h
      obtain ⟨h1, h2⟩ := Bool.and_eq_true_iff.mp h
      cases of_decide_eq_true h1
      exact .cons ⟨t, rfl⟩ (strsB_ok h2)
    | _ => cases h
theorem tupB_ok {K : PySem.W.Frag} {a : Addr} {xs : List Str} (h : tupB K a xs = true) : KTup K a (xs.map V.str) := by
  unfold tupB at h
  cases e : K.lookup a with
  | none => rw [e] at h; cases h
  | some o =>
    rw [e] at h
    have h : (decide (o.cls = .type "tuple") && (match o.data with
      | .seq its _ => decide (its.size ≤ sizeLine) && strsB its.toList xs
      | _ => false)) = true := h
    rw [Bool.and_eq_true, decide_eq_true_eq] at h
    obtain ⟨h1, h⟩ := h
    split at h
    · rename_i its n hd
      rw [Bool.and_eq_true, decide_eq_true_eq] at h
      exact ⟨o, its, n, e, h1, hd, h.1, strsB_ok h.2⟩
    · cases h
end RW
namespace RW
open PySem L2 PyProof.Rows
/-! ### C(..) with defaults behind -/
structure FuIE (g : G) (P : Program) (w : World) (mg : Str → Option Value) (base : Heap) (k : Nat) (ps : List Str) (c : Nat) (dd : List D) (mi : Im g.R.S) (f : Addr) : Prop where
  ex : ∃ fd n dvs ds, ps.length = n + 1 + dd.length ∧ FnG P w g.K mg base k f fd ps (spI g c (n + dd.length) mi) ∧ Binds g.K fd ps ds ∧ Vals dvs ds ∧ ∀ F, RepAll g F dvs dd
theorem fuie_of {g : G} {P : Program} {w : World} {mg : Str → Option Value} {base : Heap} {k n c : Nat} {x qual : Str} {params : Arguments} {body : List Stmt} {scope : Scope} {dvs dv2 : List V} {kws : List (Str × V)} {N ps : List Str} {ms : MS g.R.S} {f : Addr} {dd : List D} (sy : ∃ u, base.get? sysModules = some u) (F : ∃ fd, FunD g.K x qual params body scope dvs kws f fd) (S : FnScope N ps scope)
    (bi : ∀ fd, FunD g.K x qual params body scope dvs kws f fd → ∃ ds, Vals dv2 ds ∧ Binds g.K fd ps ds) (hr : ∀ F, RepAll g F dv2 dd) (hn : ps.length = n + 1 + dd.length) (hN : 0 < N.length)
    (hb : ∀ (cdv : Value) (A : Around) (outer : List Env) (s : Shared) (H : Hp), XO g k (cxOf CX0 P w g.K mg base N qual scope f cdv A outer s H E0).nox → DBx g (cxOf CX0 P w g.K mg base N qual scope f cdv A outer s H E0).nox body ms) :
    FuIE g P w mg base (k + 1) ps c dd (fnI c N.length ms) f := by
  obtain ⟨fd, F⟩ := F
  obtain ⟨ds, hv, hbd⟩ := bi fd F
  refine ⟨fd, n, dv2, ds, hn, FunD.okG F S (fun _ _ _ _ h => by rw [spI_len h, hn]; omega) fun cdv A outer s H vs Q hr gd hsp => ?_, hbd, hv, hr⟩
  obtain ⟨x, hx⟩ := body_init hN hsp
  exact ⟨tSx g x ms, (hb cdv A outer s H ⟨rfl, hr, rfl, S.nd, deeper_guards gd, sy⟩ x).nox, hx⟩
def iD {R : Type} (dd : List D) (mi : Im R) : Im R := fun ds r => mi (ds ++ dd) r
section
variable {g : G} {X : Cx}
theorem d_makeE {k j n : Nat} {f : Addr} {ps : List Str} {mi : Im g.R.S} {x : Str} {p pos : Pos} {e : Expr} {es : List Expr} {ma : M g.R.S (List Vr)} {dd : List D} (c : Nat) (F : FuIE g X.prog X.w X.mg X.base j ps c dd mi f) (o : XO g k X) (mk : Mk X.K (g.cls c) f) (hm : X.mg x = some (.ref (g.cls c)))
    (ha : DA g X n (e :: es) ma) (hg : Gl X x := by rfl) (hj : j + 1 ≤ k := by decide) (hn : ps.length = n + 1 + dd.length := by rfl) (hdb : (x == ("__debug__" : Str)) = false := by decide) (he : starEach (e :: es) X.env = (false, eval e X.env) :: starEach es X.env := by rfl) (hpl : (backTo pos (starEach es X.env)).any (·.1) = false := by rfl) :
    DE g X (.Call (.Name x p) (e :: es) [] pos) (mMake c (iD dd mi) ma) := by
  obtain ⟨fd, n', dvs, dfs, h1, h2, h3, h4, h5⟩ := F
  obtain rfl : n' = n := by omega
  have K := o.K
  rw [← K] at h2 h3
  refine PE.imp (pg_make mk h2 (o.rm.mono hj) o.gd hg hm h3 h4 ha hdb he hpl) fun σ H Q ⟨F, s, res, s', I, e, kk⟩ => ?_
  unfold mMake at e
  obtain ⟨p, e1, e⟩ := Option.bind_eq_some_iff.mp e
  obtain ⟨z, e2, e⟩ := Option.bind_eq_some_iff.mp e
  obtain ⟨q, e3, e⟩ := Option.map_eq_some_iff.mp e
  cases e
  refine ⟨F, s, p.1, p.2, I, e1, fun F1 vs H1 I1 K1 w1 hl x dx hx hdx hne => ?_⟩
  obtain ⟨F2, I2, K2, r2⟩ := escAll_ok I1 w1 e2
  have xa : Ext F2 H1 F2 (upd H1 dx (.own x)) := Ext.tmp I2.sub hdx
  have hx' : upd H1 dx (.own x) x = none := by rw [upd_ne (Ne.symm hne)]; exact hx
  have xb : Ext F2 (upd H1 dx (.own x)) F2 (upd (upd H1 dx (.own x)) x (.ins (g.cls c) dx [])) := Ext.tmp xa.sub hx'
  have xc := xa.trans xb
  have I3 := I2.ext xc
  refine ⟨x, dx, vs ++ dvs, F2, z.2.r, z.1 ++ dd, q.1, q.2, rfl, upd_same, I2.sub.free hx, I2.nofoot hx, I3.sub, I3.at_, I3.foot, rep_app r2 (h5 F2), by rw [List.length_append, ← r2.length, hl], e3, fun F' o' H' l h4 h5 h6 => ⟨rfl, ?_⟩⟩
  have nx : ∀ a u, H1 a = some u → a ≠ x := fun a u h => ne_of_none h hx
  have l1 : Left g F2 H1 F' H' q.2 := ⟨l.sub, l.at_, l.foot, l.le, fun a u h nf => l.heap a u (xc.heap a u h) (nx a u h) nf, fun a u h nt w => l.nof a u (xc.heap a u h) nt w (nx a u h), fun a u h => l.there a u (xc.heap a u h)⟩
  obtain ⟨I4, K4⟩ := I2.left l1
  refine kk F' (.ref x) H' I4 ((K1.trans K2 I2).trans K4 I4) ⟨x, o', rfl, ?_, h6, I2.nofoot hx, fun y => ?_, h4, h5⟩
  · cases u : H x with
    | none => rfl
    | some w => obtain ⟨o'', e'⟩ := K1.there x w u; rw [hx] at e'; cases e'
  · obtain ⟨o'', e', _⟩ := (I2.own_at (s := z.2) y).2.2
    rw [hx] at e'; cases e'
end
end RW
namespace RW
open PySem L2 PyProof.Rows
/-! ### getters of properties: what the head looks at -/
structure GetD where
  cls : Str
  attr : Str
  name : Str
  qual : Str
  st : Stmt
def pAd (K : PySem.W.Frag) (c f : Str) : Addr := He.ma K (He.ga K c) f
def gAd (K : PySem.W.Frag) (c f : Str) : Addr := match PySem.W.recIn K (pAd K c f) "property" with
  | some (.ref g :: _) => g
  | _ => 0
def fnAt (K : PySem.W.Frag) (a : Addr) : He.FnW := match K.lookup a with
  | some ⟨_, _, .func fd, _⟩ => some (fd.name, fd.qualname, fd.params, fd.body, fd.scope, fd.globals, fd.closure, fd.builtins)
  | _ => none
def GetD.val (q : GetD) : He.FnW := some (q.name, q.qual, defArgs q.st, .stmts (defBody q.st), defScope q.st, mainGlobals, [], builtinsNs)
def propB (K : PySem.W.Frag) (c f : Str) : Bool :=
  He.eqO (PySem.W.findIn K (.ref (He.ga K c)) f) (some (some (.ref (pAd K c f)))) && (He.eqO (PySem.W.specialIn K (.ref (pAd K c f)) "__get__") (some (some (.builtin "property.__get__"))) &&
    (decide (PySem.W.takesIn K (.ref (pAd K c f)) = some true) && (match PySem.W.recIn K (pAd K c f) "property" with
      | some (.ref _ :: _) => true
      | _ => false)))
theorem propB_ok {K : PySem.W.Frag} {c f : Str} (h : propB K c f = true) : PropOf K (He.ga K c) f (pAd K c f) (gAd K c f) := by
  unfold propB at h
  simp only [Bool.and_eq_true] at h
  obtain ⟨h1, h2, h3, h4⟩ := h
  refine ⟨He.eqO_ok h1, He.eqO_ok h2, of_decide_eq_true h3, ?_⟩
  unfold gAd
  split at h4
  · rename_i g rest e
    exact ⟨rest, by rw [e]⟩
  · cases h4
def codeB (K : PySem.W.Frag) (a : Addr) (qual : Str) : Bool := match K.lookup a with
  | some ⟨_, _, .func fd, _⟩ => PySem.W.codeIn K fd.code qual && (He.dflB K fd.defaults [] && He.kwdB K fd.kwdefaults [])
  | _ => false
theorem fnAt_ok {K : PySem.W.Frag} {a : Addr} {x qual : Str} {st : Stmt} (e : fnAt K a = some (x, qual, defArgs st, .stmts (defBody st), defScope st, mainGlobals, [], builtinsNs)) (hk : PySem.W.keepIn K (.ref a) = true) (hc : codeB K a qual = true) : ∃ fd, FnP K x qual st a fd := by
  unfold fnAt at e
  unfold codeB at hc
  split at e
  · rename_i oc od fd osl lk
    rw [lk] at hc
    have hc : (PySem.W.codeIn K fd.code qual && (He.dflB K fd.defaults [] && He.kwdB K fd.kwdefaults [])) = true := hc
    rw [Bool.and_eq_true, Bool.and_eq_true] at hc
    obtain ⟨h1, h2, h3⟩ := hc
    simp only [Option.some.injEq, Prod.mk.injEq] at e
    obtain ⟨e1, e2, e3, e4, e5, e6, e7, e8⟩ := e
    cases fd
    simp only at e1 e2 e3 e4 e5 e6 e7 e8 h1 h2 h3
    subst e1 e2 e3 e4 e5 e6 e7 e8
    exact ⟨_, ⟨oc, od, _, _, _, _, _, _, _, osl, rfl, lk, h1, He.dflB_ok h2, He.kwdB_ok h3⟩, hk⟩
  · cases e
def getB (K : PySem.W.Frag) (q : GetD) : Bool := propB K q.cls q.attr && (PySem.W.keepIn K (.ref (gAd K q.cls q.attr)) && codeB K (gAd K q.cls q.attr) q.qual)
def obsGet (gts : List GetD) (K : PySem.W.Frag) : He.AlD := (gts.all fun q => getB K q, gts.map fun q => fnAt K (gAd K q.cls q.attr))
def valGet (gts : List GetD) : He.AlD := (true, gts.map GetD.val)
def GetsD (gts : List GetD) (K : PySem.W.Frag) : Prop := obsGet gts K = valGet gts
section
variable {gts : List GetD} {K : PySem.W.Frag}
theorem GetsD.all_ (h : GetsD gts K) (i : Nat) {q : GetD} (e : gts[i]? = some q) : getB K q = true := by
  have c : (gts.all fun q => getB K q) = true := congrArg (fun z : He.AlD => z.1) h
  exact List.all_eq_true.mp c q (List.mem_of_getElem? e)
theorem GetsD.prop (h : GetsD gts K) (i : Nat) {q : GetD} (e : gts[i]? = some q := by rfl) : PropOf K (He.ga K q.cls) q.attr (pAd K q.cls q.attr) (gAd K q.cls q.attr) := by
  have c := h.all_ i e
  unfold getB at c
  rw [Bool.and_eq_true] at c
  exact propB_ok c.1
theorem GetsD.get (h : GetsD gts K) (i : Nat) {q : GetD} (e : gts[i]? = some q := by rfl) : ∃ fd, FnP K q.name q.qual q.st (gAd K q.cls q.attr) fd := by
  have c := h.all_ i e
  unfold getB at c
  rw [Bool.and_eq_true, Bool.and_eq_true] at c
  have e2 : (gts.map fun q => fnAt K (gAd K q.cls q.attr)) = gts.map GetD.val := congrArg (fun z : He.AlD => z.2) h
  have e3 := congrArg (fun l : List He.FnW => l[i]?) e2
  simp only [List.getElem?_map, e, Option.map_some, Option.some.injEq] at e3
  exact fnAt_ok e3 c.2.1 c.2.2
end
/-! ### the hook -/
def obsP (n : Nat) (fa : List He.Fa) (fn : List He.DefD) (gts : List GetD) (ex : PySem.W.Frag → Bool) (g : Addr → Option Obj) : ((Bool × Bool) × He.AlD) × He.AlD :=
  let K := He.frG g (He.asD g n)
  (((sysB g, ex K), He.obsD fa fn K), obsGet gts K)
structure SaysP (fa : List He.Fa) (fn : List He.DefD) (gts : List GetD) (ex : PySem.W.Frag → Bool) (h : Heap) (K : PySem.W.Frag) : Prop where
  kin : K.In h
  c : He.SaysD fa fn K
  ex : ex K = true
  sy : SysOk h
  gt : GetsD gts K
def hookP (n : Nat) (fa : List He.Fa) (fn : List He.DefD) (gts : List GetD) (ex : PySem.W.Frag → Bool) : PySem.W.Hook where
  α := ((Bool × Bool) × He.AlD) × He.AlD
  obs := fun s => obsP n fa fn gts ex s.heap.get?
  val := fun _ => (((true, true), He.valD fn), valGet gts)
  says := fun _ h => ∃ K : PySem.W.Frag, SaysP fa fn gts ex h K
  of := fun _ s e => ⟨_, He.frG_in, congrArg (fun z : ((Bool × Bool) × He.AlD) × He.AlD => z.1.2) e, congrArg (fun z : ((Bool × Bool) × He.AlD) × He.AlD => z.1.1.2) e, sysB_ok (congrArg (fun z : ((Bool × Bool) × He.AlD) × He.AlD => z.1.1.1) e), congrArg (fun z : ((Bool × Bool) × He.AlD) × He.AlD => z.2) e⟩
  keeps := fun _ _ _ ⟨K, hK, c, e, ⟨o, es, n, h1, h2⟩, gt⟩ k => ⟨K, PySem.W.Frag.In.keeps hK k, c, e, ⟨o, es, n, k _ _ h1, h2⟩, gt⟩
theorem obsP_eq {n : Nat} {fa : List He.Fa} {fn : List He.DefD} {gts : List GetD} {ex : PySem.W.Frag → Bool} {g : Addr → Option Obj} {s : Shared} (h : ∀ a, g a = s.heap.get? a) : obsP n fa fn gts ex g = (hookP n fa fn gts ex).obs s := by
  have e : g = s.heap.get? := funext h
  rw [e]; rfl
theorem end_ofP {l : PySem.W.OpenLaw} {n k : Nat} {q : Program} {loose : List Str} {XP : (Str → Option Value) → Heap → Prop} {d : DefRec} {x : Str} {fa : List He.Fa} {fn : List He.DefD} {gts : List GetD} {ex : PySem.W.Frag → Bool} {dep : Nat}
    (hn : l.most = some n) (hn2 : n ≤ sizeLine) (hdf : d.params.defaults = []) (hr : Room k callerA)
    (F : ∀ (w : World) (mg : Str → Option Value) (f : Addr) (h : Heap) (K : PySem.W.Frag), SaysP fa fn gts ex h K → h.Ns mainGlobals mg → mg d.name = some (.ref f) →
      ∃ fd : FuncData, (∀ (s : Shared) (u : Value), BindsTo s fd ⟨[u], []⟩ [(x, u)]) ∧
        ∀ base : Heap, K.In base → base.Ns mainGlobals mg → (∃ u, base.get? sysModules = some u) → FnG l.prog w K mg base k f fd [x] (spLaw K n)) :
    PySem.W.WalkO q loose XP (hookP dep fa fn gts ex).says l.row.toRowW d [] (fun f vs => PySem.call f vs) := by
  refine Att.attach_call hn hdf ?_
  intro w s0 s1 mg mb f o pm cd doc a vs ns G Y ho hd hcd hmg hobj hints hlen hg
  obtain ⟨K, hK⟩ := Y
  obtain ⟨fd, hb, hF⟩ := F w mg f _ K hK G.T.g hmg
  exact law_callG hK.kin hK.sy G.T.g G.T.b G.T.builtins G.T.nolimit hg hobj hints (Nat.le_trans hlen hn2) hlen hr hF hb
/-! ### x is False -/
section
variable {g : G} {X : Cx}
def isB : D → D → Option Vr
  | .bl a, .bl b => some (.sh (.bl (decide (a = b))))
  | _, _ => none
theorem p_isB : Op2 g isB (fun x y H Q => ∃ a b, x = .bl a ∧ y = .bl b ∧ Q (.bl (decide (a = b))) H) := by
  refine ⟨fun x y z e i => ?_, fun F H x y dx dy z Q s p q e n => ?_⟩
  · unfold isB at e
    split at e <;> cases e <;> exact fun z => nomatch z
  · unfold isB at e
    split at e
    · cases e
      obtain rfl := p.bl
      obtain rfl := q.bl
      exact ⟨_, _, rfl, rfl, n.q s (.bl _)⟩
    · cases e
theorem d_isB {a b : Expr} {ma mb : M g.R.S Vr} {pos : Pos} (ha : DE g X a ma) (hb : DE g X b mb) : DE g X (.Compare a [.Is] [b] pos) (mOp2 isB ma mb) := d_cmp op_is_bl p_isB ha hb (nobehind _ (by decide) (by decide))
end
end RW
namespace RW
open PySem L2 PyProof.Rows
section
variable {g : G} {X : Cx}
/-! ### min of a tuple of data -/
def minT : D → Option Vr
  | .tup (d :: ds) => (toPyAll (d :: ds)).bind fun ps => if okM ps = true then some (.sh (minL d ds)) else none
  | _ => none
def rMinT (g : G) : List V → Hp → VK → Prop := fun xs H Q => ∃ v F d ds ps, xs = [v] ∧ Sub F H ∧ Pk g F H v (.tup (d :: ds)) ∧ toPyAll (d :: ds) = some ps ∧ okM ps = true ∧
  ∀ w, Rep g F w (minL d ds) → Q w H
theorem call_minT {k : Nat} (o : XO g k X) : CallR X (.builtin "min") (rMinT g) := by
  intro pins s σ H xs us Q I r ⟨v, F, d, ds, ps, e, hS, hp, hx, hok, q⟩
  subst e
  obtain ⟨a, vs, rfl, e1, r1⟩ := hp.tup hS
  rw [Vals.ref1 r]
  obtain ⟨its, rv, hl, hz⟩ := I.tuple (show SqT X.K H a vs by rw [o.K]; exact e1)
  obtain ⟨as, ra, _⟩ := reads_all I hS o.K o.sy r1 rv hx
  have em := toPyAll_map hx
  rw [List.map_cons] at em
  unfold okM at hok
  rw [Bool.and_eq_true, Bool.and_eq_true, List.all_eq_true, List.all_eq_true] at hok
  have hal : ∀ x ∈ ps, ∀ y ∈ ps, PySem.W.alike x y = true := fun x hx y hy => by have := hok.1 x hx; rw [List.all_eq_true] at this; exact this y hy
  have hn : ∀ x ∈ ps, x ≠ .none := fun x hx z => by have := hok.2.1 x hx; rw [z] at this; cases this
  have hd : PyData.depthAll ps ≤ 40 := of_decide_eq_true hok.2.2
  subst em
  refine PySem.W.min_tuple_data (I.ok.hd o.calm) hl (by simpa using ra) ⟨hal, hn⟩ (by have := o.hu64; omega) fun i u h' tk bs hi hr keep => ?_
  have hi : its[i]? = some u := by simpa using hi
  obtain ⟨x, d', e3, rx, rel⟩ := rv_get r1 rv i u hi
  have hd' : d' ∈ d :: ds := List.mem_of_getElem? e3
  have f1 := toPyAll_mem hx d' hd'
  have f2 := toPyAll_mem hx _ (minL_mem ds d)
  obtain ⟨as', ra', _⟩ := reads_rep I hS o.K o.sy rx rel f1
  have ra2 := PyProof.Rows.Reads.keeps keep ra'
  have m1 : pyD d' ∈ pyD d :: ds.map pyD := by rw [← List.map_cons]; exact List.mem_map_of_mem hd'
  have m2 : pyD (minL d ds) ∈ pyD d :: ds.map pyD := by rw [← List.map_cons]; exact List.mem_map_of_mem (minL_mem ds d)
  rw [← minL_py] at hr
  have e4 := PySem.W.alike_unique _ _ _ _ _ (hal _ m1 _ m2) ra2 hr
  rw [← e4] at f2
  have e5 : d' = minL d ds := toPy_inj _ (hal _ m1 _ m1) f1 f2
  rw [e5] at rx
  exact ⟨x, H, I.kept keep, rel, q x rx⟩
theorem d_minT {a : Expr} {ma : M g.R.S Vr} {p pos : Pos} {k : Nat} (o : XO g k X) (hg : Gl X "min") (hm : X.mg "min" = none) (ha : DE g X a ma) (he : starEach [a] X.env = (false, eval a X.env) :: starEach [] X.env := by rfl) : DE g X (.Call (.Name "min" p) [a] [] pos) (mOp1 minT ma) := by
  refine d_b1 (call_minT o) ⟨fun x z e i => ?_, fun F H x dx z Q s p e n => ?_⟩ (by decide +kernel) hg hm ha (by decide) (by decide) he rfl
  · unfold minT at e
    split at e
    · obtain ⟨ps, _, e⟩ := Option.bind_eq_some_iff.mp e
      split at e
      · cases e; exact fun z => nomatch z
      · cases e
    · cases e
  · unfold minT at e
    split at e
    · obtain ⟨ps, h1, e⟩ := Option.bind_eq_some_iff.mp e
      split at e
      · cases e
        exact ⟨x, F, _, _, ps, rfl, s, p, h1, by assumption, fun w r => n.q s r⟩
      · cases e
    · cases e
/-! ### x = tuple(list); y = x.index(text): what is new has no dict of its own, so its methods are plain -/
def NoD (H : Hp) (u : Value) (s : Shared) : Prop := ∀ a, u = .ref a → (∃ o, s.heap.get? a = some o ∧ o.dict = none) ∧ ∃ x, H a = some x
def PE1 (X : Cx) (e : Expr) (t : TE) : Prop := ∀ (pins : List (Addr × Obj)) (s : Shared) (σ : L2.St) (H : Hp) (Q : VK), L2.Inv X pins σ H s → t σ H Q →
  wpAny (model X.prog X.w) X.A (eval e X.env) (fun u s' => ∃ v H', L2.Inv X pins σ H' s' ∧ RelV v u ∧ Q v H' ∧ NoD H' u s') X.xe s
def tTupL (K : PySem.W.Frag) (ta : TE) : TE := fun σ H Q => ta σ H fun x H1 => ∃ q ys, x = .ref q ∧ SqL K H1 q ys ∧ ∀ l, H1 l = none → Q (.ref l) (upd H1 l (.tup ys))
theorem pe1_tup {a : Expr} {ta : TE} {p pos : Pos} (hg : Gl X "tuple") (hm : X.mg "tuple" = none) (ha : PE X a ta) (he : starEach [a] X.env = (false, eval a X.env) :: starEach [] X.env := by rfl) : PE1 X (.Call (.Name "tuple" p) [a] [] pos) (tTupL X.K ta) := by
  intro pins s σ H Q I h
  refine wpAny_Call_Name_kw (ld_blt I hg hm (u := .type "tuple") (by decide +kernel) ?_ (by decide) (by decide))
  refine PyProof.Rows.callWith_type1 (thn ((pa_cons ha pa_nil he).run pos pins s σ H (fun xs H1 => match xs with
    | [x] => ∃ q ys, x = .ref q ∧ SqL X.K H1 q ys ∧ ∀ l, H1 l = none → Q (.ref l) (upd H1 l (.tup ys))
    | _ => False) I h) fun us s1 ⟨vs, H1, I1, r1, q1⟩ => ?_) he rfl
  match vs, q1 with
  | [x], ⟨q, ys, ex, hq, qq⟩ =>
    subst ex
    rw [Vals.ref1 r1]
    obtain ⟨its, r', pl, hz⟩ := I1.list hq
    have hlen := r'.length
    refine call_tuple_list pl.isList (fun h' kp => ?_) (by simp only [List.size_toArray] <;> omega)
    have I2 : L2.Inv X pins σ H1 { s1 with heap := h' } := I1.kept (t' := s1.toks) kp
    have hn := Heap.get?_push_size h' (o := { cls := .type "tuple", data := .seq its.toArray }) rfl
    have I3 : L2.Inv X pins σ (upd H1 h'.objs.size (.tup ys)) { s1 with heap := h'.push { cls := .type "tuple", data := .seq its.toArray } } :=
      I2.laid (t' := s1.toks) (fun b o e => Heap.get?_push_of_some _ e) (Nat.le_refl _) (show ObjOk X.prog X.w _ _ _ (.tup ys) from ⟨hz, its, r', IsTup.new _ _⟩)
    refine ⟨.ref h'.objs.size, _, I3, rfl, qq _ (I2.hok.fresh (Nat.le_refl _)), fun a e => ?_⟩
    cases e
    exact ⟨⟨_, hn, rfl⟩, _, upd_same⟩
/-- the thing in that cell has no dict of its own -/
def Dn (i : Nat) (σ : L2.St) (s : Shared) : Prop := ∀ a, σ[i]? = some (some (.ref a)) → ∃ o, s.heap.get? a = some o ∧ o.dict = none
theorem ps1_set {i : Nat} {x : Str} {e : Expr} {te : TE} {pos' pos : Pos} (hN : X.N.Nodup) (hi : X.N[i]? = some x) (hx : Loc X.env.scope x) (he : PE1 X e te) (hs : swapsWith e (some (.Name x pos')) pos.line X.env = pure false)
    (hf : X.fn x = true ∨ X.env.scope.names.lookup x = some .local) {pins : List (Addr × Obj)} {s : Shared} {σ : L2.St} {H : Hp} {D : Ends} (I : L2.Inv X pins σ H s) (h : tAsg te (gName i) D σ H) :
    wpAny (model X.prog X.w) X.A (exec (.Assign [.Name x pos'] e pos) X.env) (fun f s' => f = .next ∧ ∃ σ' H', L2.Inv X pins σ' H' s' ∧ D.nx σ' H' ∧ Dn i σ' s') X.xe s := by
  refine wpAny_Assign_Name (thn (he pins s σ H _ I h) fun v s1 ⟨y, H1, I1, r1, q1, n1⟩ => ?_) hs
  refine store_ok2 I1 hN hi hx r1 (fun s2 I2 ⟨a, hs, ha⟩ => ⟨rfl, _, H1, I2, q1, fun p hp => ?_⟩) hf
  have hil : i < σ.length := by rw [I1.len]; exact (List.getElem?_eq_some_iff.mp hi).1
  rw [List.getElem?_set_self hil] at hp
  cases hp
  have r1 : v = .ref p := r1
  obtain ⟨⟨o, ho, hd⟩, z, hz⟩ := n1 p r1
  refine ⟨o, (hs.2 p ?_).trans ho, hd⟩
  rintro rfl
  rcases ha with ha | ha
  · rw [ha, I1.free] at hz; cases hz
  · rw [I1.freeC x p ha] at hz; cases hz
theorem name_raw {E : Value → Shared → Prop} {pins : List (Addr × Obj)} {s : Shared} {σ : L2.St} {H : Hp} {i : Nat} {x : Str} {v : V} {pos : Pos} {Q : Value → Shared → Prop} (I : L2.Inv X pins σ H s) (hN : X.N[i]? = some x) (hv : Vis X.env.scope x) (e : σ[i]? = some (some v)) (h : ∀ u, RelV v u → Q u s)
    (hd : (x == ("__debug__" : Str)) = false := by decide) (hcd : (x == ("__classdict__" : Str)) = false := by decide) : wpAny (model X.prog X.w) X.A (eval (.Name x pos) X.env) Q E s := by
  obtain ⟨m, hn, hl⟩ := I.loc
  obtain ⟨u, r, l⟩ := hl i x v hN e hv
  have fin := h u r
  rcases l with ⟨hk, hm⟩ | ⟨hk, c, hc, hcell⟩
  · exact wpAny_Name (wpAny_loadName_local I.ok.kind hk hn hm fin) hd
  · rcases hk with hk | hk
    · exact wpAny_Name (wpAny_loadName_cell I.ok.kind hk hc hcell fin) hd
    · exact wpAny_Name (wpAny_loadName_free I.ok.kind hk hc hcell fin hcd) hd
def tIxT (K : PySem.W.Frag) (i : Nat) (t2 : TE) : TE := fun σ H Q => ∃ p, σ[i]? = some (some (.ref p)) ∧ (∃ vs, SqT K H p vs) ∧ t2 σ H fun z H1 => ∃ (ks : List Str) (k : Str), z = .str k ∧ SqT K H1 p (ks.map V.str) ∧ k ∈ ks ∧ Q (.int (ks.idxOf k : Nat)) H1
theorem pe_ixT {i : Nat} {x : Str} {e2 : Expr} {t2 : TE} {px apos cpos : Pos} (hN : X.N[i]? = some x) (hv : Vis X.env.scope x) (he : PE X e2 t2)
    (hd : (x == ("__debug__" : Str)) = false) (hcd : (x == ("__classdict__" : Str)) = false)
    (hbase : attributeBase (.Name x px) "index" X.env (eval (.Name x px) X.env) = eval (.Name x px) X.env)
    (hfew : ((backTo cpos (starEach [e2] X.env)).all (fun x => !x.1) && (backToKw cpos (keywordEach [] X.env)).all (fun x => x.1.isSome)
      && decide ([e2].length + ([] : List Keyword).length + (if ([] : List Keyword).isEmpty then 0 else 1) < 30)) = true)
    (hline : (apos.endLine == cpos.line) = true) (hs : starEach [e2] X.env = (false, eval e2 X.env) :: starEach [] X.env) (hplain : (backTo cpos (starEach [] X.env)).any (·.1) = false)
    {pins : List (Addr × Obj)} {s : Shared} {σ : L2.St} {H : Hp} {Q : VK} (I : L2.Inv X pins σ H s) (n : Dn i σ s) (h : tIxT X.K i t2 σ H Q) :
    wpAny (model X.prog X.w) X.A (eval (.Call (.Attribute (.Name x px) "index" apos) [e2] [] cpos) X.env) (EP X pins σ Q) X.xe s := by
  obtain ⟨p, ep, ⟨vs0, hq0⟩, h2⟩ := h
  refine wpAny_Call_method_late hbase hfew hline rfl (name_raw I hN hv ep (fun u r => ?_) hd hcd)
  have r : u = .ref p := r
  subst r
  obtain ⟨its0, _, ⟨o0, ho0, hc0, _⟩, _⟩ := I.tuple hq0
  refine ⟨"tuple", "tuple.index", PySem.F.plainAttrs_tuple, PySem.F.slot_tuple_index, PySem.F.type_tuple_index, ⟨o0, ho0, hc0⟩, fun a e => ?_, ?_⟩
  · cases e; exact n p ep
  have hA := (pa_cons he pa_nil hs).run cpos pins s σ H (fun xs H1 => match xs with
    | [z] => ∃ (ks : List Str) (k : Str), z = .str k ∧ SqT X.K H1 p (ks.map V.str) ∧ k ∈ ks ∧ Q (.int (ks.idxOf k : Nat)) H1
    | _ => False) I h2
  rw [hs] at hA ⊢
  refine Calls.callWith_builtin (by show (false || (backTo cpos (starEach [] X.env)).any (·.1)) = false; rw [hplain] <;> rfl) (Calls.evalArgs_plain ?_)
  refine thn hA fun us s2 ⟨vs, H2, I2, r2, q2⟩ => ?_
  match vs, q2 with
  | [z], ⟨ks, k, ez, hq, hk, q⟩ =>
    subst ez
    obtain ⟨u, rfl, ru⟩ := Vals.one r2
    obtain ⟨t, rfl⟩ := ru
    obtain ⟨its, rv, pl, hz⟩ := I2.tuple hq
    exact PySem.SeqAt.tuple_index_strs pl (strsAre_of rv) hk ⟨.int (ks.idxOf k : Nat), H2, I2.tok _, ⟨_, rfl⟩, q⟩
/-! the data -/
def tupL : D → Option Vr
  | .lst ds => some (.sh (.tup ds))
  | _ => none
theorem p_tupL {k : Nat} (o : XO g k X) : Op1 g tupL (fun x H1 Q => ∃ q ys, x = .ref q ∧ SqL X.K H1 q ys ∧ ∀ l, H1 l = none → Q (.ref l) (upd H1 l (.tup ys))) := by
  refine ⟨fun x z e i => ?_, fun F H x dx z Q s p e n => ?_⟩
  · unfold tupL at e
    split at e
    · cases e; exact fun z => nomatch z
    · cases e
  · unfold tupL at e
    split at e
    · cases e
      obtain ⟨a, xs, rfl, e1, r1⟩ := p.lst s
      exact ⟨a, xs, rfl, SqL.of e1, fun l hl => n.newT s r1 l hl⟩
    · cases e
def isTupD : D → Bool
  | .tup _ => true
  | _ => false
def indexT : D → D → Option Vr
  | .tup ds, .str x => (strsOf ds).bind fun ys => (idxOfS x ys).map fun (j : Nat) => .sh (.int (j : Int))
  | _, _ => none
theorem idxOfS_eq {x : Str} : ∀ {ys : List Str} {j : Nat}, idxOfS x ys = some j → x ∈ ys ∧ ys.idxOf x = j
  | [], _, h => by cases h
  | y :: ys, j, h => by
    rw [idxOfS] at h
    split at h
    · rename_i e
      cases h; subst e
      exact ⟨List.mem_cons_self, List.idxOf_cons_self⟩
    · rename_i e
      obtain ⟨k, h1, rfl⟩ := Option.map_eq_some_iff.mp h
      obtain ⟨h2, h3⟩ := idxOfS_eq h1
      exact ⟨List.mem_cons_of_mem _ h2, by rw [List.idxOf_cons, show (y == x) = false from by simpa using e]; show ys.idxOf x + 1 = k + 1; rw [h3]⟩
def mIxT {R : Type} (i : Nat) (mb : M R Vr) : M R Vr := fun s => match s.e[i]? with
  | some (some c) => if c.own = false ∧ isTupD c.d = true then (mb s).bind fun q => (pk (soft q.1) q.2).bind fun y => (indexT c.d y).map fun z => (z, q.2) else none
  | _ => none
theorem tIxT_of {k : Nat} (o : XO g k X) {i : Nat} {mb : M g.R.S Vr} {σ : L2.St} {H : Hp} {Q : VK} (h : tM g (mIxT i mb) σ H Q) : tIxT X.K i (tM g mb) σ H Q := by
  obtain ⟨F, s, res, s', I, e, k⟩ := h
  unfold mIxT at e
  split at e
  · rename_i c ec
    split at e
    · rename_i hc
      obtain ⟨q, e2, e⟩ := Option.bind_eq_some_iff.mp e
      obtain ⟨y, e4, e⟩ := Option.bind_eq_some_iff.mp e
      obtain ⟨z, e5, e⟩ := Option.map_eq_some_iff.mp e
      cases e
      obtain ⟨v, ev, qv⟩ := I.cell i c ec
      have rv : Rep g F v c.d := by
        rcases qv with ⟨_, qv⟩ | ⟨z, _⟩
        · exact qv
        · rw [hc.1] at z; cases z
      have w1 : WOk g F σ (soft (.sh c.d)) v := rv
      have p0 : Pk g F H v c.d := w1.pk I (by rfl)
      unfold indexT at e5
      split at e5
      · rename_i ds x ed
        rw [ed] at p0 w1
        obtain ⟨ys, h1, e5⟩ := Option.bind_eq_some_iff.mp e5
        obtain ⟨j, h2, rfl⟩ := Option.map_eq_some_iff.mp e5
        obtain ⟨h3, h4⟩ := idxOfS_eq h2
        obtain ⟨a, vs, rfl, ea, r1⟩ := p0.tup I.sub
        refine ⟨a, ev, ⟨vs, by rw [o.K]; exact ea⟩, ?_⟩
        refine tM_soft I e2 fun F2 u H2 I2 K2 w2 => ?_
        have p1 : Pk g F2 H2 (.ref a) (.tup ds) := (w1.keep K2.grow).pk I2 (by rfl)
        have p2 := w2.pk I2 e4
        obtain ⟨a', vs', ea', hq, r2⟩ := p1.tup I2.sub
        cases ea'
        rw [strsOf_eq h1] at r2
        rw [rep_strs r2] at hq
        obtain rfl := p2.str
        have n := fin_of I2 K2 (z := .sh (.int (j : Int))) (fun i z => nomatch z) k
        refine ⟨ys, x, rfl, by rw [o.K]; exact hq, h3, ?_⟩
        rw [h4]
        exact n F2 _ _ (Ext.refl I2.sub) (.int _)
      · cases e5
    · cases e
  · cases e
theorem b_ixT {i j : Nat} {x y : Str} {a e2 : Expr} {ma mb : M g.R.S Vr} {rest : List Stmt} {mr : MS g.R.S} {k : Nat} {p1 p2 p3 p4 p5 px apos cpos pos : Pos} (o : XO g k X) (hN : X.N.Nodup) (hg : Gl X "tuple") (hm : X.mg "tuple" = none)
    (ha : DE g X a ma) (hb : DE g X e2 mb) (hr : DB g X rest mr)
    (hi : X.N[i]? = some x := by rfl) (hj : X.N[j]? = some y := by rfl) (hx : Loc X.env.scope x := by first | exact Or.inl rfl | exact Or.inr rfl) (hy : Loc X.env.scope y := by first | exact Or.inl rfl | exact Or.inr rfl) (hv : Vis X.env.scope x := by first | exact Or.inl rfl | exact Or.inr (Or.inl rfl) | exact Or.inr rfl)
    (hf : X.fn x = true ∨ X.env.scope.names.lookup x = some .local := by first | exact .inl rfl | exact .inr rfl | assumption) (hf2 : X.fn y = true ∨ X.env.scope.names.lookup y = some .local := by first | exact .inl rfl | exact .inr rfl | assumption)
    (he : starEach [a] X.env = (false, eval a X.env) :: starEach [] X.env := by rfl)
    (hs1 : swapsWith (.Call (.Name "tuple" p1) [a] [] p2) (some (.Name x p3)) p4.line X.env = pure false := by rfl)
    (hs2 : swapsWith (.Call (.Attribute (.Name x px) "index" apos) [e2] [] cpos) (some (.Name y p5)) pos.line X.env = pure false := by rfl)
    (hd : (x == ("__debug__" : Str)) = false := by decide) (hcd : (x == ("__classdict__" : Str)) = false := by decide)
    (hbase : attributeBase (.Name x px) "index" X.env (eval (.Name x px) X.env) = eval (.Name x px) X.env := by rfl)
    (hfew : ((backTo cpos (starEach [e2] X.env)).all (fun x => !x.1) && (backToKw cpos (keywordEach [] X.env)).all (fun x => x.1.isSome)
      && decide ([e2].length + ([] : List Keyword).length + (if ([] : List Keyword).isEmpty then 0 else 1) < 30)) = true := by rfl)
    (hline : (apos.endLine == cpos.line) = true := by rfl) (hs : starEach [e2] X.env = (false, eval e2 X.env) :: starEach [] X.env := by rfl) (hplain : (backTo cpos (starEach [] X.env)).any (·.1) = false := by rfl) :
    DB g X (.Assign [.Name x p3] (.Call (.Name "tuple" p1) [a] [] p2) p4 :: .Assign [.Name y p5] (.Call (.Attribute (.Name x px) "index" apos) [e2] [] cpos) pos :: rest)
      (mSeq (mSet i (mOp1 tupL ma)) (mSeq (mSet j (mIxT i mb)) mr)) := by
  have split2 : ∀ {m n : MS g.R.S} {D : Ends} {σ : L2.St} {H : Hp}, tS g (mSeq m n) D σ H → tS g m { D with nx := tS g n D } σ H := fun {m n D σ H} ⟨F, s, fl, s', I, e, ou⟩ => by
    unfold mSeq at e
    obtain ⟨⟨f, s1⟩, e1, e⟩ := Option.bind_eq_some_iff.mp e
    refine ⟨F, s, f, s1, I, e1, ?_⟩
    cases f with
    | nx => exact fun F' σ' H' I' K' => ⟨F', s1, fl, s', I', e, ou.base K'⟩
    | bk => cases e; exact ou
    | ct => cases e; exact ou
    | rt r => cases e; exact ou
  refine ⟨fun pins s σ H D I h => ?_⟩
  have h1 := tSet_of (split2 h)
  have pe : PE1 X (.Call (.Name "tuple" p1) [a] [] p2) (tM g (mOp1 tupL ma)) := fun pins s σ H Q I h => pe1_tup hg hm ha he pins s σ H Q I (tOp1_of (p_tupL o) h)
  refine wpAny_execs_cons (thn (ps1_set hN hi hx pe hs1 hf I h1) fun f s1 q => ?_)
  obtain ⟨rfl, σ1, H1, I1, q1, n1⟩ := q
  have h2 := tSet_of (split2 (show tS g (mSeq (mSet j (mIxT i mb)) mr) D σ1 H1 from q1))
  refine wpAny_execs_cons (thn (Q := SP X pins { D with nx := tS g mr D }) ?_ fun f s2 q => ?_)
  · refine wpAny_Assign_Name (thn (pe_ixT hi hv hb hd hcd hbase hfew hline hs hplain I1 n1 (tIxT_of o h2)) fun v s2 ⟨y, H2, I2, r2, q2⟩ => ?_) hs2
    exact store_ok I2 hN hj hy r2 (fun s3 I3 => ⟨_, H2, I3, q2⟩) hf2
  · cases f with
    | next =>
      obtain ⟨σ', H', I', q⟩ := q
      exact hr.run pins s2 σ' H' D I' q
    | ret v => exact q
    | brk => exact q
    | cont => exact q
end
end RW
set_option maxHeartbeats 0
namespace RW
open PySem L2
def top (i : Nat) : Stmt := PySem.Challenge.pw_roundways_k15_known_mixtures.main.body.getD i (.Pass ⟨0, 0, 0, 0⟩)
def fn0 : List He.DefD := [⟨("is_list", none), "is_list", "is_list", defArgs (top 13), defBody (top 13), defScope (top 13), [], []⟩, ⟨("is_name", none), "is_name", "is_name", defArgs (top 14), defBody (top 14), defScope (top 14), [], []⟩, ⟨("are_names", none), "are_names", "are_names", defArgs (top 15), defBody (top 15), defScope (top 15), [], []⟩, ⟨("is_place", none), "is_place", "is_place", defArgs (top 16), defBody (top 16), defScope (top 16), [], []⟩, ⟨("is_table", none), "is_table", "is_table", defArgs (top 17), defBody (top 17), defScope (top 17), [], []⟩, ⟨("nodes_of", none), "nodes_of", "nodes_of", defArgs (top 18), defBody (top 18), defScope (top 18), [], []⟩, ⟨("are_tables", none), "are_tables", "are_tables", defArgs (top 19), defBody (top 19), defScope (top 19), [], []⟩, ⟨("are_nodes", none), "are_nodes", "are_nodes", defArgs (top 20), defBody (top 20), defScope (top 20), [], []⟩, ⟨("ordered", none), "ordered", "ordered", defArgs (top 21), defBody (top 21), defScope (top 21), [], []⟩, ⟨("Net", some "__init__"), "__init__", "Net.__init__", defArgs (inClass (top 22) 0), defBody (inClass (top 22) 0), defScope (inClass (top 22) 0), [.adr (He.dflAt ("Net", some "__init__") 0), .adr (He.dflAt ("Net", some "__init__") 1)], []⟩, ⟨("Net", some "does_change"), "does_change", "Net.does_change", defArgs (inClass (top 22) 1), defBody (inClass (top 22) 1), defScope (inClass (top 22) 1), [], []⟩, ⟨("Net", some "way"), "way", "Net.way", defArgs (inClass (top 22) 8), defBody (inClass (top 22) 8), defScope (inClass (top 22) 8), [], []⟩, ⟨("Net", some "__eq__"), "__eq__", "Net.__eq__", defArgs (inClass (top 22) 11), defBody (inClass (top 22) 11), defScope (inClass (top 22) 11), [], []⟩, ⟨("Net", some "__iter__"), "__iter__", "Net.__iter__", defArgs (inClass (top 22) 12), defBody (inClass (top 22) 12), defScope (inClass (top 22) 12), [], []⟩, ⟨("need_net", none), "need_net", "need_net", defArgs (top 23), defBody (top 23), defScope (top 23), [], []⟩, ⟨("need_goal", none), "need_goal", "need_goal", defArgs (top 24), defBody (top 24), defScope (top 24), [], []⟩, ⟨("need_node", none), "need_node", "need_node", defArgs (top 25), defBody (top 25), defScope (top 25), [], []⟩, ⟨("depths_by", none), "depths_by", "depths_by", defArgs (top 26), defBody (top 26), defScope (top 26), [], []⟩, ⟨("depths", none), "depths", "depths", defArgs (top 27), defBody (top 27), defScope (top 27), [], []⟩, ⟨("is_sound", none), "is_sound", "is_sound", defArgs (top 28), defBody (top 28), defScope (top 28), [], []⟩, ⟨("is_lot", none), "is_lot", "is_lot", defArgs (top 30), defBody (top 30), defScope (top 30), [], []⟩, ⟨("need_done", none), "need_done", "need_done", defArgs (top 31), defBody (top 31), defScope (top 31), [], []⟩, ⟨("need_round", none), "need_round", "need_round", defArgs (top 32), defBody (top 32), defScope (top 32), [], []⟩, ⟨("mixture", none), "mixture", "mixture", defArgs (top 33), defBody (top 33), defScope (top 33), [], []⟩, ⟨("moment_ways", none), "moment_ways", "moment_ways", defArgs (top 34), defBody (top 34), defScope (top 34), [], []⟩, ⟨("next_nodes", none), "next_nodes", "next_nodes", defArgs (top 35), defBody (top 35), defScope (top 35), [], []⟩, ⟨("ways", none), "ways", "ways", defArgs (top 36), defBody (top 36), defScope (top 36), [], []⟩, ⟨("rings_from", none), "rings_from", "rings_from", defArgs (top 37), defBody (top 37), defScope (top 37), [], []⟩, ⟨("ring_in", none), "ring_in", "ring_in", defArgs (top 38), defBody (top 38), defScope (top 38), [], []⟩, ⟨("ring", none), "ring", "ring", defArgs (top 39), defBody (top 39), defScope (top 39), [], []⟩]
def fn1 : List He.DefD := [⟨("ranks_in", none), "ranks_in", "ranks_in", defArgs (top 40), defBody (top 40), defScope (top 40), [], []⟩, ⟨("ranks", none), "ranks", "ranks", defArgs (top 41), defBody (top 41), defScope (top 41), [], []⟩, ⟨("led_by", none), "led_by", "led_by", defArgs (top 42), defBody (top 42), defScope (top 42), [], []⟩, ⟨("led", none), "led", "led", defArgs (top 43), defBody (top 43), defScope (top 43), [], []⟩, ⟨("is_moment", none), "is_moment", "is_moment", defArgs (top 44), defBody (top 44), defScope (top 44), [], []⟩, ⟨("is_step", none), "is_step", "is_step", defArgs (top 45), defBody (top 45), defScope (top 45), [], []⟩, ⟨("does_lead", none), "does_lead", "does_lead", defArgs (top 46), defBody (top 46), defScope (top 46), [], []⟩, ⟨("is_moving", none), "is_moving", "is_moving", defArgs (top 47), defBody (top 47), defScope (top 47), [], []⟩, ⟨("reached_in", none), "reached_in", "reached_in", defArgs (top 48), defBody (top 48), defScope (top 48), [], []⟩, ⟨("reached", none), "reached", "reached", defArgs (top 49), defBody (top 49), defScope (top 49), [], []⟩, ⟨("lasso_from", none), "lasso_from", "lasso_from", defArgs (top 50), defBody (top 50), defScope (top 50), [], []⟩, ⟨("moment_of", none), "moment_of", "moment_of", defArgs (top 51), defBody (top 51), defScope (top 51), [], []⟩, ⟨("twice", none), "twice", "twice", defArgs (top 52), defBody (top 52), defScope (top 52), [], []⟩, ⟨("_law_begin", none), "_law_begin", "_law_begin", defArgs (top 54), defBody (top 54), defScope (top 54), [], []⟩, ⟨("_law_blend", none), "_law_blend", "_law_blend", defArgs (top 55), defBody (top 55), defScope (top 55), [], []⟩, ⟨("_law_pick", none), "_law_pick", "_law_pick", defArgs (top 56), defBody (top 56), defScope (top 56), [], []⟩, ⟨("_law_take", none), "_law_take", "_law_take", defArgs (top 57), defBody (top 57), defScope (top 57), [], []⟩, ⟨("_law_words", none), "_law_words", "_law_words", defArgs (top 58), defBody (top 58), defScope (top 58), [], []⟩, ⟨("_law_pair_right", none), "_law_pair_right", "_law_pair_right", defArgs (top 59), defBody (top 59), defScope (top 59), [], []⟩, ⟨("_law_three_right", none), "_law_three_right", "_law_three_right", defArgs (top 60), defBody (top 60), defScope (top 60), [], []⟩, ⟨("_law_goals_right", none), "_law_goals_right", "_law_goals_right", defArgs (top 61), defBody (top 61), defScope (top 61), [], []⟩, ⟨("law", none), "law", "law", defArgs (top 62), defBody (top 62), defScope (top 62), [], []⟩]
def fn : List He.DefD := fn0 ++ fn1
def fa0 : List He.Fa := [.glo "WayError", .glo "BadNet", .glo "NoGoal", .glo "NoNode", .glo "BadLot", .glo "is_list", .glo "is_name", .glo "are_names", .glo "is_place", .glo "is_table", .glo "nodes_of", .glo "are_tables", .glo "are_nodes", .glo "ordered", .glo "Net", .glo "need_net", .glo "need_goal", .glo "need_node", .glo "depths_by", .glo "depths", .glo "is_sound", .glo "is_lot", .glo "need_done", .glo "need_round", .glo "mixture", .glo "moment_ways", .glo "next_nodes", .glo "ways", .glo "rings_from", .glo "ring_in"]
def fa1 : List He.Fa := [.glo "ring", .glo "ranks_in", .glo "ranks", .glo "led_by", .glo "led", .glo "is_moment", .glo "is_step", .glo "does_lead", .glo "is_moving", .glo "reached_in", .glo "reached", .glo "lasso_from", .glo "moment_of", .glo "twice", .glo "_law_begin", .glo "_law_blend", .glo "_law_pick", .glo "_law_take", .glo "_law_words", .glo "_law_pair_right", .glo "_law_three_right", .glo "_law_goals_right", .glo "law", .str "LETTERS" "abcdefghijklmnopqrstuvwxyz", .int "LONGEST" 6, .int "MOST_GOALS" 2, .int "MOST_NODES" 6, .int "MOST_POSTS" 2, .cls "Net", .mkr "Net"]
def fa2 : List He.Fa := [.meth "Net" "does_change", .meth "Net" "way", .meth "Net" "__eq__", .meth "Net" "__iter__", .meth "Net" "__init__", .noat "Net" "own_tables", .noat "Net" "own_goals", .noat "Net" "own_nodes", .noat "Net" "own_sources", .noat "Net" "own_posts", .noat "Net" "own_changing", .free "len", .free "isinstance", .free "sorted", .free "tuple", .free "all", .free "any", .free "range", .free "list", .free "dict", .free "int", .free "repr", .free "min", .free "max", .free "abs", .free "enumerate", .free "set", .free "zip", .free "str", .free "sum"]
def fa3 : List He.Fa := [.free "bool"]
def fa : List He.Fa := fa0 ++ fa1 ++ fa2 ++ fa3
def nms0 : List PySem.Str := ["_wall", "WayError", "BadNet", "NoGoal", "NoNode", "BadLot", "LETTERS", "LONGEST", "MOST_GOALS", "MOST_NODES", "MOST_POSTS", "is_list", "is_name", "are_names", "is_place", "is_table", "nodes_of", "are_tables", "are_nodes", "ordered", "Net", "need_net", "need_goal", "need_node", "depths_by", "depths", "is_sound", "is_lot", "need_done", "need_round"]
def nms1 : List PySem.Str := ["mixture", "moment_ways", "next_nodes", "ways", "rings_from", "ring_in", "ring", "ranks_in", "ranks", "led_by", "led", "is_moment", "is_step", "does_lead", "is_moving", "reached_in", "reached", "lasso_from", "moment_of", "twice", "_law_begin", "_law_blend", "_law_pick", "_law_take", "_law_words", "_law_pair_right", "_law_three_right", "_law_goals_right"]
def nms : List PySem.Str := nms0 ++ nms1
def gts : List GetD := [⟨"Net", "changing", "changing", "Net.changing", inClass (top 22) 7⟩]
def clsOf (K : PySem.W.Frag) : Nat → Addr := fun c => match c with | 0 => He.ga K "Net" | 1000 => 1 | _ => 0
def exB (K : PySem.W.Frag) : Bool := isCB K (He.ga K "Net") && tupB K (He.dflAt ("Net", some "__init__") 1 K) [] && tupB K (He.dflAt ("Net", some "__init__") 0 K) []
abbrev Ro : PySem.W.OpenRow := PySem.W.OpenLaw.row PySem.Challenge.rw_roundways_k15_known_mixtures
abbrev hk : PySem.W.Hook := hookP 6 fa fn gts exB
def ob (s : PySem.W.SharedT) : ((Bool × Bool) × He.AlD) × He.AlD := obsP 6 fa fn gts exB (HandSHeadRun.getT s)
theorem ob_eq (s : PySem.W.SharedT) : ob s = hk.obs s.abs := obsP_eq (HandSHeadRun.getT_eq s)
theorem run (w : World) : HandSHeadRun.RunEq Ro (PySem.W.view Ro.prog [62]) hk ob 8000 nms w := by
  intro os
  kernel_rfl
end RW
namespace RW
open PySem L2
def m__law_begin {R : Type} (T : Fm R) : MS R := mSeq (mSet 1 (mLc [2] (mIt itemsOf (mV 0)) (.nm 2) (mOp2 geI (mOp1 absD (mV 2)) (mOp2 (o2I iPow) (mC (.int 10)) (mC (.int 18)))) (mOp2 (o2I fun i j => some (.int (i - j))) (mOp1 absD (mV 2)) (mOp2 (o2I iPow) (mC (.int 10)) (mC (.int 18)))))) (mRt (mDisp ((mC (.str "great"), mV 1) :: (mC (.str "rest"), mC (.int 0)) :: (mC (.str "cells"), mLc [2] (mIt itemsOf (mV 0)) (.nm 2) (mC (.bl true)) (mOp1 absD (mV 2))) :: (mC (.str "turn"), mC (.int 0)) :: [])))
def f__law_begin {R : Type} (T : Fm R) : Fm R := fnM 3 (m__law_begin T)
def m__law_pick {R : Type} (T : Fm R) : MS R := mRt (mOp2 idxD (mV 1) (mCall T (mArgs [mV 0, mOp1 lenD (mV 1)])))
def f__law_pick {R : Type} (T : Fm R) : Fm R := fnM 2 (m__law_pick T)
def m__law_words {R : Type} (T : Fm R) : MS R := mSeq (mPar [2, 3] [mC (.str "abcdefghijklmnopqrstuvwxyz"), mLst (mArgs [])]) (mSeq (mSet 4 (mLst (mArgs [mC (.str "a"), mC (.str "b"), mC (.str "goal"), mC (.str "home"), mC (.str "lost"), mC (.str "rings"), mC (.str "posts"), mC (.str "done"), mC (.str "way"), mC (.str "zzzzzz")]))) (mSeq (mFor (mRng1 (mV 1)) (.nm 5) (mSeq (mSet 6 (mCall (f__law_pick T) (mArgs [mV 0, mV 4]))) (mSeq (mIte (mOp2 gtD (mCall T (mArgs [mV 0, mC (.int 3)])) (mC (.int 0))) (mSeq (mSet 7 (mOp2 addD (mC (.int 1)) (mCall T (mArgs [mV 0, mCall (f__law_pick T) (mArgs [mV 0, mLst (mArgs [mC (.int 1), mC (.int 2), mC (.int 6)])])])))) (mSet 6 (mJoin (mC (.str "")) (mLc [10] (mRng1 (mV 7)) (.nm 10) (mC (.bl true)) (mCall (f__law_pick T) (mArgs [mV 0, mV 2])))))) (mNx)) (mSeq (mSet 8 (mOp2 addD (mLst (mArgs [mV 6])) (mLc [9] (mIt itemsOf (mV 2)) (.nm 9) (mC (.bl true)) (mOp2 addD (mSl (mV 6) (mNoP) (mPt (mC (.int 5)))) (mV 9))))) (mEx (mMut 3 isLst appL (mArgs [mOp2 idxD (mLc [11] (mIt itemsOf (mV 8)) (.nm 11) (mOp2 ninD (mV 11) (mV 3)) (mV 11)) (mC (.int 0))]))))))) (mRt (mV 3))))
def f__law_words {R : Type} (T : Fm R) : Fm R := fnM 12 (m__law_words T)
def m_Net_does_change {R : Type} (T : Fm R) : MS R := mRt (mOp1 anyD (mLc [2] (mIt valsOf (mOp1 (fldD 0 "own_tables") (mV 0))) (.nm 2) (mC (.bl true)) (mOp2 neD (mOp2 idxD (mOp2 idxD (mV 2) (mC (.int 0))) (mV 1)) (mOp2 idxD (mOp2 idxD (mV 2) (mC (.int 1))) (mV 1)))))
def f_Net_does_change {R : Type} (T : Fm R) : Fm R := fnM 3 (m_Net_does_change T)
def m_is_list {R : Type} (T : Fm R) : MS R := mRt (mOp1 (isiD2 "list" "tuple") (mV 0))
def f_is_list {R : Type} (T : Fm R) : Fm R := fnM 1 (m_is_list T)
def m_are_nodes {R : Type} (T : Fm R) : MS R := mSeq (mIte (mOr (mNot (mCall (f_is_list T) (mArgs [mV 1]))) (mNot (mOp1 allD (mLc [2] (mIt itemsOf (mV 1)) (.nm 2) (mC (.bl true)) (mAnd (mOp1 (isiD "str") (mV 2)) (mOp2 inD (mV 2) (mV 0))))))) (mRt (mC (.bl false))) (mNx)) (mRt (mOp2 eqD (mOp1 lenSetD (mV 1)) (mOp1 lenD (mV 1))))
def f_are_nodes {R : Type} (T : Fm R) : Fm R := fnM 3 (m_are_nodes T)
def m_is_name {R : Type} (T : Fm R) : MS R := mRt (mAnd (mOp1 (isiD "str") (mV 0)) (mAnd (mChain leI leI (mC (.int 1)) (mOp1 lenD (mV 0)) (mC (.int 6))) (mOp1 allD (mLc [1] (mIt itemsOf (mV 0)) (.nm 1) (mC (.bl true)) (mOp2 inD (mV 1) (mC (.str "abcdefghijklmnopqrstuvwxyz")))))))
def f_is_name {R : Type} (T : Fm R) : Fm R := fnM 2 (m_is_name T)
def m_are_names {R : Type} (T : Fm R) : MS R := mRt (mAnd (mOp1 (isiD "dict") (mV 0)) (mAnd (mChain leI leI (mC (.int 1)) (mOp1 lenD (mV 0)) (mV 1)) (mOp1 allD (mLc [2] (mIt itemsOf (mV 0)) (.nm 2) (mC (.bl true)) (mCall (f_is_name T) (mArgs [mV 2]))))))
def f_are_names {R : Type} (T : Fm R) : Fm R := fnM 3 (m_are_names T)
def m_is_place {R : Type} (T : Fm R) : MS R := mSeq (mIte (mOp1 isN (mV 3)) (mRt (mC (.bl true))) (mNx)) (mRt (mAnd (mOp1 (isiD "str") (mV 3)) (mOr (mOp2 eqD (mV 3) (mV 1)) (mAnd (mOp2 inD (mV 3) (mV 0)) (mOp2 neD (mV 3) (mV 2))))))
def f_is_place {R : Type} (T : Fm R) : Fm R := fnM 4 (m_is_place T)
def m_is_table {R : Type} (T : Fm R) : MS R := mSeq (mIte (mOr (mNot (mOp1 (isiD "dict") (mV 2))) (mOr (mOp2 neD (mOp1 lenD (mV 2)) (mOp1 lenD (mV 0))) (mNot (mOp1 allD (mLc [3] (mIt itemsOf (mV 0)) (.nm 3) (mC (.bl true)) (mOp2 inD (mV 3) (mV 2))))))) (mRt (mC (.bl false))) (mNx)) (mRt (mOp1 allD (mLc [3] (mIt itemsOf (mV 0)) (.nm 3) (mC (.bl true)) (mCall (f_is_place T) (mArgs [mV 0, mV 1, mV 3, mOp2 idxD (mV 2) (mV 3)])))))
def f_is_table {R : Type} (T : Fm R) : Fm R := fnM 4 (m_is_table T)
def m_nodes_of {R : Type} (T : Fm R) : MS R := mSeq (mSet 1 (mOp2 idxD (mV 0) (mOp1 minF (mV 0)))) (mSeq (mIte (mOr (mNot (mOp1 (isiD "tuple") (mV 1))) (mOr (mOp2 neD (mOp1 lenD (mV 1)) (mC (.int 2))) (mNot (mCall (f_are_names T) (mArgs [mOp2 idxD (mV 1) (mC (.int 0)), mC (.int 6)]))))) (mRt (mC .non)) (mNx)) (mRt (mOp1 sortF (mOp2 idxD (mV 1) (mC (.int 0))))))
def f_nodes_of {R : Type} (T : Fm R) : Fm R := fnM 2 (m_nodes_of T)
def m_are_tables {R : Type} (T : Fm R) : MS R := mSeq (mIte (mNot (mCall (f_are_names T) (mArgs [mV 0, mC (.int 2)]))) (mRt (mC (.bl false))) (mNx)) (mSeq (mSet 1 (mCall (f_nodes_of T) (mArgs [mV 0]))) (mSeq (mIte (mOr (mOp1 isN (mV 1)) (mOp1 anyD (mLc [4] (mIt itemsOf (mV 1)) (.nm 4) (mC (.bl true)) (mOp2 inD (mV 4) (mV 0))))) (mRt (mC (.bl false))) (mNx)) (mSeq (mFor (mIt itemsOf (mV 0)) (.nm 2) (mSeq (mSet 3 (mOp2 idxD (mV 0) (mV 2))) (mSeq (mIte (mOr (mNot (mOp1 (isiD "tuple") (mV 3))) (mOp2 neD (mOp1 lenD (mV 3)) (mC (.int 2)))) (mRt (mC (.bl false))) (mNx)) (mIte (mOr (mNot (mCall (f_is_table T) (mArgs [mV 1, mV 2, mOp2 idxD (mV 3) (mC (.int 0))]))) (mNot (mCall (f_is_table T) (mArgs [mV 1, mV 2, mOp2 idxD (mV 3) (mC (.int 1))])))) (mRt (mC (.bl false))) (mNx))))) (mRt (mC (.bl true))))))
def f_are_tables {R : Type} (T : Fm R) : Fm R := fnM 5 (m_are_tables T)
def m_ordered {R : Type} (T : Fm R) : MS R := mRt (mDc [1] (mIt itemsOf (mOp1 sortF (mV 0))) (.nm 1) (mC (.bl true)) (mV 1) (mOp2 idxD (mV 0) (mV 1)))
def f_ordered {R : Type} (T : Fm R) : Fm R := fnM 2 (m_ordered T)
def m_Net___init__ {R : Type} (T : Fm R) : MS R := mSeq (mIte (mNot (mCall (f_are_tables T) (mArgs [mV 1]))) (mSeq (mNo) (mNx)) (mNx)) (mSeq (mSet 4 (mCall (f_nodes_of T) (mArgs [mV 1]))) (mSeq (mIte (mNot (mCall (f_are_nodes T) (mArgs [mV 4, mV 2]))) (mSeq (mNo) (mNx)) (mNx)) (mSeq (mIte (mOr (mNot (mCall (f_are_nodes T) (mArgs [mV 4, mV 3]))) (mOp2 gtD (mOp1 lenD (mV 3)) (mC (.int 2)))) (mSeq (mNo) (mNx)) (mNx)) (mSeq (mFld 0 0 "own_tables" (mDc [5] (mIt itemsOf (mOp1 sortG (mV 1))) (.nm 5) (mC (.bl true)) (mV 5) (mTup (mArgs [mCall (f_ordered T) (mArgs [mOp2 idxD (mOp2 idxD (mV 1) (mV 5)) (mC (.int 0))]), mCall (f_ordered T) (mArgs [mOp2 idxD (mOp2 idxD (mV 1) (mV 5)) (mC (.int 1))])])))) (mSeq (mFld 0 0 "own_goals" (mOp1 tup1 (mOp1 (fldD 0 "own_tables") (mV 0)))) (mSeq (mFld 0 0 "own_nodes" (mOp1 tup1 (mV 4))) (mSeq (mFld 0 0 "own_sources" (mOp1 tup1 (mOp1 sortG (mV 2)))) (mSeq (mFld 0 0 "own_posts" (mOp1 tup1 (mV 3))) (mSeq (mFld 0 0 "own_changing" (mOp1 tup1 (mLc [6] (mIt itemsOf (mV 4)) (.nm 6) (mMeth 0 "does_change" (f_Net_does_change T) (mV 0) (mArgs [mV 6])) (mV 6)))) (mNx))))))))))
def i_Net___init__ {R : Type} (T : Fm R) : Im R := fnI 0 7 (m_Net___init__ T)
def m_is_lot {R : Type} (T : Fm R) : MS R := mSeq (mIte (mOr (mNot (mOp1 (isiD "tuple") (mV 1))) (mNot (mOp1 allD (mLc [4] (mIt itemsOf (mV 1)) (.nm 4) (mC (.bl true)) (mAnd (mOp1 (isiD "str") (mV 4)) (mOp2 inD (mV 4) (mOp1 (fldD 0 "own_changing") (mV 0)))))))) (mRt (mC (.bl false))) (mNx)) (mRt (mOp1 allD (mLc [2, 3] (mZip (mArgs [mV 1, mSl (mV 1) (mPt (mC (.int 1))) (mNoP)])) (.tp [.nm 2, .nm 3]) (mC (.bl true)) (mOp2 ltD (mV 2) (mV 3)))))
def f_is_lot {R : Type} (T : Fm R) : Fm R := fnM 5 (m_is_lot T)
def m_led_by {R : Type} (T : Fm R) : MS R := mSeq (mSet 2 (mLst (mArgs [mV 1]))) (mSeq (mWhile (mAnd (mOp2 inD (mOp2 idxD (mV 2) (mOp1 negD (mC (.int 1)))) (mV 0)) (mOp2 ninD (mOp2 idxD (mV 2) (mOp1 negD (mC (.int 1)))) (mSl (mV 2) (mNoP) (mPt (mOp1 negD (mC (.int 1))))))) (mEx (mMut 2 isLst appL (mArgs [mOp2 idxD (mV 0) (mOp2 idxD (mV 2) (mOp1 negD (mC (.int 1))))])))) (mRt (mV 2)))
def f_led_by {R : Type} (T : Fm R) : Fm R := fnM 3 (m_led_by T)
def m_moment_ways {R : Type} (T : Fm R) : MS R := mSeq (mUnp (.tp [.nm 4, .nm 5]) (mOp2 idxD (mOp1 (fldD 0 "own_tables") (mV 0)) (mV 3))) (mRt (mDc [6] (mIt itemsOf (mOp1 (fldD 0 "own_nodes") (mV 0))) (.nm 6) (mC (.bl true)) (mV 6) (mIf (mOr (mOp2 inD (mV 6) (mV 1)) (mOp2 inD (mV 6) (mV 2))) (mOp2 idxD (mV 5) (mV 6)) (mOp2 idxD (mV 4) (mV 6)))))
def f_moment_ways {R : Type} (T : Fm R) : Fm R := fnM 7 (m_moment_ways T)
def m_need_done {R : Type} (T : Fm R) : MS R := mIte (mNot (mCall (f_is_lot T) (mArgs [mV 0, mV 1]))) (mNo) (mNx)
def f_need_done {R : Type} (T : Fm R) : Fm R := fnM 2 (m_need_done T)
def m_need_goal {R : Type} (T : Fm R) : MS R := mIte (mOr (mNot (mOp1 (isiD "str") (mV 1))) (mOp2 ninD (mV 1) (mOp1 (fldD 0 "own_goals") (mV 0)))) (mNo) (mNx)
def f_need_goal {R : Type} (T : Fm R) : Fm R := fnM 2 (m_need_goal T)
def m_need_net {R : Type} (T : Fm R) : MS R := mIte (mNot (mOp1 (isiC 0) (mV 0))) (mNo) (mNx)
def f_need_net {R : Type} (T : Fm R) : Fm R := fnM 1 (m_need_net T)
def m_need_node {R : Type} (T : Fm R) : MS R := mIte (mOr (mNot (mOp1 (isiD "str") (mV 1))) (mOp2 ninD (mV 1) (mOp1 (fldD 0 "own_nodes") (mV 0)))) (mNo) (mNx)
def f_need_node {R : Type} (T : Fm R) : Fm R := fnM 2 (m_need_node T)
def m_led {R : Type} (T : Fm R) : MS R := mSeq (mEx (mCall (f_need_net T) (mArgs [mV 0]))) (mSeq (mEx (mCall (f_need_done T) (mArgs [mV 0, mV 1]))) (mSeq (mIte (mOr (mNot (mCall (f_is_lot T) (mArgs [mV 0, mV 2]))) (mOp1 anyD (mLc [5] (mIt itemsOf (mV 2)) (.nm 5) (mC (.bl true)) (mOp2 inD (mV 5) (mV 1))))) (mNo) (mNx)) (mSeq (mEx (mCall (f_need_goal T) (mArgs [mV 0, mV 3]))) (mSeq (mEx (mCall (f_need_node T) (mArgs [mV 0, mV 4]))) (mRt (mCall (f_led_by T) (mArgs [mCall (f_moment_ways T) (mArgs [mV 0, mV 1, mV 2, mV 3]), mV 4])))))))
def f_led {R : Type} (T : Fm R) : Fm R := fnM 6 (m_led T)
def m_mixture {R : Type} (T : Fm R) : MS R := mSeq (mUnp (.tp [.nm 4, .nm 5]) (mOp2 idxD (mOp1 (fldD 0 "own_tables") (mV 0)) (mV 3))) (mSeq (mSet 6 (mDct0 false)) (mSeq (mFor (mIt itemsOf (mOp1 (fldD 0 "own_nodes") (mV 0))) (.nm 7) (mIte (mOp2 inD (mV 7) (mV 1)) (mPut 6 (mV 7) (mLst (mArgs [mOp2 idxD (mV 5) (mV 7)]))) (mIte (mAnd (mOp2 inD (mV 7) (mV 2)) (mOp2 neD (mOp2 idxD (mV 5) (mV 7)) (mOp2 idxD (mV 4) (mV 7)))) (mPut 6 (mV 7) (mLst (mArgs [mOp2 idxD (mV 4) (mV 7), mOp2 idxD (mV 5) (mV 7)]))) (mPut 6 (mV 7) (mLst (mArgs [mOp2 idxD (mV 4) (mV 7)])))))) (mRt (mV 6))))
def f_mixture {R : Type} (T : Fm R) : Fm R := fnM 8 (m_mixture T)
def m_need_round {R : Type} (T : Fm R) : MS R := mSeq (mEx (mCall (f_need_net T) (mArgs [mV 0]))) (mSeq (mEx (mCall (f_need_done T) (mArgs [mV 0, mV 1]))) (mIte (mOr (mNot (mCall (f_is_lot T) (mArgs [mV 0, mV 2]))) (mOp1 anyD (mLc [3] (mIt itemsOf (mV 2)) (.nm 3) (mC (.bl true)) (mOp2 inD (mV 3) (mV 1))))) (mNo) (mNx)))
def f_need_round {R : Type} (T : Fm R) : Fm R := fnM 4 (m_need_round T)
def m_next_nodes {R : Type} (T : Fm R) : MS R := mRt (mLc [2] (mIt itemsOf (mOp2 idxD (mV 0) (mV 1))) (.nm 2) (mOp2 inD (mV 2) (mV 0)) (mV 2))
def f_next_nodes {R : Type} (T : Fm R) : Fm R := fnM 3 (m_next_nodes T)
def m_ranks_in {R : Type} (T : Fm R) : MS R := mSeq (mSet 1 (mDct0 false)) (mSeq (mFor (mRng1 (mOp1 lenD (mV 0))) (.nm 2) (mFor (mIt itemsOf (mV 0)) (.nm 3) (mIte (mAnd (mOp2 ninD (mV 3) (mV 1)) (mOp1 allD (mLc [4] (mIt itemsOf (mCall (f_next_nodes T) (mArgs [mV 0, mV 3]))) (.nm 4) (mC (.bl true)) (mOp2 inD (mV 4) (mV 1))))) (mPut 1 (mV 3) (mOp2 addD (mOp1 max1 (mOp2 addD (mLst (mArgs [mOp1 negD (mC (.int 1))])) (mLc [4] (mIt itemsOf (mCall (f_next_nodes T) (mArgs [mV 0, mV 3]))) (.nm 4) (mC (.bl true)) (mOp2 idxD (mV 1) (mV 4))))) (mC (.int 1)))) (mNx)))) (mRt (mIf (mOp2 eqD (mOp1 lenD (mV 1)) (mOp1 lenD (mV 0))) (mDc [3] (mIt itemsOf (mV 0)) (.nm 3) (mC (.bl true)) (mV 3) (mOp2 idxD (mV 1) (mV 3))) (mC .non))))
def f_ranks_in {R : Type} (T : Fm R) : Fm R := fnM 5 (m_ranks_in T)
def m_ranks {R : Type} (T : Fm R) : MS R := mSeq (mEx (mCall (f_need_round T) (mArgs [mV 0, mV 1, mV 2]))) (mSeq (mEx (mCall (f_need_goal T) (mArgs [mV 0, mV 3]))) (mRt (mCall (f_ranks_in T) (mArgs [mCall (f_mixture T) (mArgs [mV 0, mV 1, mV 2, mV 3])]))))
def f_ranks {R : Type} (T : Fm R) : Fm R := fnM 4 (m_ranks T)
def m_reached_in {R : Type} (T : Fm R) : MS R := mSeq (mPar [2, 3] [mLst (mArgs [mV 1]), mC (.int 0)]) (mSeq (mWhile (mOp2 ltD (mV 3) (mOp1 lenD (mV 2))) (mSeq (mFor (mIt itemsOf (mCall (f_next_nodes T) (mArgs [mV 0, mOp2 idxD (mV 2) (mV 3)]))) (.nm 4) (mIte (mOp2 ninD (mV 4) (mV 2)) (mEx (mMut 2 isLst appL (mArgs [mV 4]))) (mNx))) (mAugI 3 (fun i j => i + j) (mC (.int 1))))) (mRt (mV 2)))
def f_reached_in {R : Type} (T : Fm R) : Fm R := fnM 5 (m_reached_in T)
def m_reached {R : Type} (T : Fm R) : MS R := mSeq (mEx (mCall (f_need_round T) (mArgs [mV 0, mV 1, mV 2]))) (mSeq (mEx (mCall (f_need_goal T) (mArgs [mV 0, mV 3]))) (mSeq (mEx (mCall (f_need_node T) (mArgs [mV 0, mV 4]))) (mSeq (mSet 5 (mCall (f_mixture T) (mArgs [mV 0, mV 1, mV 2, mV 3]))) (mSeq (mSet 6 (mCall (f_reached_in T) (mArgs [mV 5, mV 4]))) (mRt (mTup (mArgs [mOp1 tup1 (mOp1 sortF (mV 6)), mOp1 anyD (mLc [7] (mIt itemsOf (mV 6)) (.nm 7) (mC (.bl true)) (mOp2 inD (mV 3) (mOp2 idxD (mV 5) (mV 7)))), mOp1 anyD (mLc [7] (mIt itemsOf (mV 6)) (.nm 7) (mC (.bl true)) (mOp2 inD (mC .non) (mOp2 idxD (mV 5) (mV 7))))])))))))
def f_reached {R : Type} (T : Fm R) : Fm R := fnM 8 (m_reached T)
def m_rings_from {R : Type} (T : Fm R) : MS R := mSeq (mSet 3 (mLst (mArgs [mTup (mArgs [mV 1])]))) (mSeq (mFor (mRng1 (mOp2 (o2I fun i j => some (.int (i - j))) (mV 2) (mC (.int 1)))) (.nm 4) (mSeq (mSet 5 (mLst (mArgs []))) (mSeq (mFor (mIt itemsOf (mV 3)) (.nm 6) (mEx (mMut 5 isLst extL (mArgs [mLc [7] (mIt itemsOf (mCall (f_next_nodes T) (mArgs [mV 0, mOp2 idxD (mV 6) (mOp1 negD (mC (.int 1)))]))) (.nm 7) (mAnd (mOp2 gtD (mV 7) (mV 1)) (mOp2 ninD (mV 7) (mV 6))) (mStarT (mV 6) (mArgs [mV 7]))])))) (mSet 3 (mV 5))))) (mRt (mLc [6] (mIt itemsOf (mV 3)) (.nm 6) (mOp2 inD (mV 1) (mOp2 idxD (mV 0) (mOp2 idxD (mV 6) (mOp1 negD (mC (.int 1)))))) (mV 6))))
def f_rings_from {R : Type} (T : Fm R) : Fm R := fnM 8 (m_rings_from T)
def m_ring_in {R : Type} (T : Fm R) : MS R := mSeq (mFor (mRng2 (mC (.int 2)) (mOp2 addD (mOp1 lenD (mV 0)) (mC (.int 1)))) (.nm 1) (mSeq (mSet 2 (mLst (mArgs []))) (mSeq (mFor (mIt itemsOf (mV 0)) (.nm 3) (mEx (mMut 2 isLst extL (mArgs [mCall (f_rings_from T) (mArgs [mV 0, mV 3, mV 1])])))) (mIte (mOp2 gtD (mOp1 lenD (mV 2)) (mC (.int 0))) (mRt (mOp1 minF (mV 2))) (mNx))))) (mRt (mC .non))
def f_ring_in {R : Type} (T : Fm R) : Fm R := fnM 4 (m_ring_in T)
def m_ring {R : Type} (T : Fm R) : MS R := mSeq (mEx (mCall (f_need_round T) (mArgs [mV 0, mV 1, mV 2]))) (mSeq (mEx (mCall (f_need_goal T) (mArgs [mV 0, mV 3]))) (mRt (mCall (f_ring_in T) (mArgs [mCall (f_mixture T) (mArgs [mV 0, mV 1, mV 2, mV 3])]))))
def f_ring {R : Type} (T : Fm R) : Fm R := fnM 4 (m_ring T)
def m_lasso_from {R : Type} (T : Fm R) : MS R := mSeq (mSet 2 (mLst (mArgs [mTup (mArgs [mV 1])]))) (mSeq (mWhile (mOp2 gtD (mOp1 lenD (mV 2)) (mC (.int 0))) (mSeq (mSet 3 (mLst (mArgs []))) (mSeq (mFor (mIt itemsOf (mV 2)) (.nm 4) (mFor (mIt itemsOf (mCall (f_next_nodes T) (mArgs [mV 0, mOp2 idxD (mV 4) (mOp1 negD (mC (.int 1)))]))) (.nm 5) (mSeq (mIte (mOp2 inD (mV 5) (mV 4)) (mRt (mStarL (mV 4) (mArgs [mV 5]))) (mNx)) (mEx (mMut 3 isLst appL (mArgs [mStarT (mV 4) (mArgs [mV 5])])))))) (mSet 2 (mV 3))))) (mRt (mC .non)))
def f_lasso_from {R : Type} (T : Fm R) : Fm R := fnM 6 (m_lasso_from T)
def m_moment_of {R : Type} (T : Fm R) : MS R := mSeq (mSet 4 (mOp2 idxD (mOp2 idxD (mOp1 (fldD 0 "own_tables") (mV 0)) (mV 2)) (mC (.int 1)))) (mRt (mOp1 tup1 (mLc [5] (mIt itemsOf (mV 1)) (.nm 5) (mAnd (mOp2 inD (mV 5) (mSl (mV 3) (mNoP) (mPt (mOp1 negD (mC (.int 1)))))) (mOp2 eqD (mOp2 idxD (mV 4) (mV 5)) (mOp2 idxD (mV 3) (mOp2 addD (mIndex (mV 3) (mV 5)) (mC (.int 1)))))) (mV 5))))
def f_moment_of {R : Type} (T : Fm R) : Fm R := fnM 6 (m_moment_of T)
def m_twice {R : Type} (T : Fm R) : MS R := mSeq (mEx (mCall (f_need_round T) (mArgs [mV 0, mV 1, mV 2]))) (mSeq (mEx (mCall (f_need_goal T) (mArgs [mV 0, mV 3]))) (mSeq (mEx (mCall (f_need_node T) (mArgs [mV 0, mV 4]))) (mSeq (mSet 5 (mCall (f_lasso_from T) (mArgs [mCall (f_mixture T) (mArgs [mV 0, mV 1, mV 2, mV 3]), mV 4]))) (mSeq (mIte (mOp1 isN (mV 5)) (mRt (mC .non)) (mNx)) (mSeq (mSet 6 (mCall (f_moment_of T) (mArgs [mV 0, mV 2, mV 3, mV 5]))) (mRt (mLc [7] (mIt itemsOf (mV 5)) (.nm 7) (mC (.bl true)) (mTup (mArgs [mV 7, mV 6])))))))))
def f_twice {R : Type} (T : Fm R) : Fm R := fnM 8 (m_twice T)
def m_ways {R : Type} (T : Fm R) : MS R := mSeq (mEx (mCall (f_need_round T) (mArgs [mV 0, mV 1, mV 2]))) (mSeq (mEx (mCall (f_need_goal T) (mArgs [mV 0, mV 3]))) (mRt (mCall (f_mixture T) (mArgs [mV 0, mV 1, mV 2, mV 3]))))
def f_ways {R : Type} (T : Fm R) : Fm R := fnM 4 (m_ways T)
def m_depths_by {R : Type} (T : Fm R) : MS R := mSeq (mSet 2 (mDct0 false)) (mSeq (mFor (mIt itemsOf (mV 0)) (.nm 3) (mSeq (mPar [4, 5] [mV 3, mC (.int 0)]) (mSeq (mWhile (mAnd (mOp2 inD (mV 4) (mV 0)) (mOp2 leI (mV 5) (mOp1 lenD (mV 0)))) (mPar [4, 5] [mOp2 idxD (mV 0) (mV 4), mOp2 addD (mV 5) (mC (.int 1))])) (mPut 2 (mV 3) (mIf (mOp2 eqD (mV 4) (mV 1)) (mV 5) (mC .non)))))) (mRt (mV 2)))
def f_depths_by {R : Type} (T : Fm R) : Fm R := fnM 6 (m_depths_by T)
def m_depths {R : Type} (T : Fm R) : MS R := mSeq (mEx (mCall (f_need_net T) (mArgs [mV 0]))) (mSeq (mEx (mCall (f_need_goal T) (mArgs [mV 0, mV 1]))) (mRt (mCall (f_depths_by T) (mArgs [mOp2 idxD (mOp2 idxD (mOp1 (fldD 0 "own_tables") (mV 0)) (mV 1)) (mIf (mV 2) (mC (.int 1)) (mC (.int 0))), mV 1]))))
def f_depths {R : Type} (T : Fm R) : Fm R := fnM 3 (m_depths T)
def m_is_sound {R : Type} (T : Fm R) : MS R := mSeq (mEx (mCall (f_need_net T) (mArgs [mV 0]))) (mSeq (mFor (mIt pairsOf (mOp1 (fldD 0 "own_tables") (mV 0))) (.tp [.nm 1, .nm 2]) (mFor (mIt itemsOf (mV 2)) (.nm 3) (mIte (mOp2 inVw (mC .non) (mCall (f_depths_by T) (mArgs [mV 3, mV 1]))) (mRt (mC (.bl false))) (mNx)))) (mRt (mC (.bl true))))
def f_is_sound {R : Type} (T : Fm R) : Fm R := fnM 4 (m_is_sound T)
def m_blendR : MS Unit := mSeq (mSet 2 (mC (.int 0))) (mSeq (mFor (mIt itemsOf (mLst (mArgs [mC (.int 2147483629), mC (.int 2147483587), mC (.int 2147483579), mC (.int 2147483563)]))) (.nm 3) (mSeq (mSet 4 (mOp2 (o2I iMod) (mOp1 intD (mOp2 addD (mOp2 mulD (mV 1) (mC (.int 69621))) (mOp2 (o2I iDiv) (mV 3) (mC (.int 7))))) (mV 3))) (mSeq (mFor (mIt itemsOf (mOp2 idxD (mV 0) (mC (.str "cells")))) (.nm 5) (mSet 4 (mOp2 (o2I iMod) (mOp1 intD (mOp2 addD (mOp2 mulD (mV 4) (mC (.int 48271))) (mV 5))) (mV 3)))) (mSet 2 (mOp2 addD (mOp2 mulD (mV 2) (mC (.int 2147483647))) (mOp2 (o2I iMod) (mOp1 intD (mOp2 (o2I iPow) (mV 4) (mC (.int 5)))) (mV 3))))))) (mRt (mV 2)))
def m_blend : MS Dr := mSeq (mSet 1 (mOp2 addD (mRG 0 Dr.turn) (mC (.int 1)))) (mSeq (mRP 0 (fun r n => { r with turn := n }) (mV 1)) (mFrz m_blendR))
def f_blend : Fm Dr := fnM 6 m_blend
def m_take (b : Bool) : MS Dr := mSeq (mIte (mAnd (mOp2 eqD (mRG 0 Dr.rest) (mC (.int 0))) (mRB 0 fun r => !decide (r.great = []))) (mRP 0 (fun r n => { r with rest := n }) (mRPop b 0)) mNx) (mSeq (mIte (mOp2 eqD (mRG 0 Dr.rest) (mC (.int 0))) (mRP 0 (fun r n => { r with rest := n }) (mCall f_blend (mArgs [mV 0]))) mNx) (mSeq (mSet 2 (mOp2 (o2I iMod) (mOp1 intD (mRG 0 Dr.rest)) (mV 1))) (mSeq (mRP 0 (fun r n => { r with rest := n }) (mOp2 (o2I iDiv) (mRG 0 Dr.rest) (mV 1))) (mRt (mV 2)))))
def f_take (b : Bool) : Fm Dr := fnM 3 (m_take b)
def m_begin1 : MS Unit := mSet 1 (mCall (f__law_begin fun _ _ => none) (mArgs [mV 0]))
end RW
namespace RW
open PySem L2
def m_Net_changing {R : Type} (T : Fm R) : MS R := mRt (mOp1 (fldD 0 "own_changing") (mV 0))
def f_Net_changing {R : Type} (T : Fm R) : Fm R := fnM 1 (m_Net_changing T)
def m__law_goals_right {R : Type} (T : Fm R) : MS R := mSeq (mSet 4 (mDisp ((mV 2, mTup (mArgs [mDisp ((mV 0, mV 2) :: (mV 1, mV 0) :: []), mDisp ((mV 0, mV 2) :: (mV 1, mC .non) :: [])])) :: (mV 3, mTup (mArgs [mDisp ((mV 0, mV 1) :: (mV 1, mV 3) :: []), mDisp ((mV 0, mV 3) :: (mV 1, mV 3) :: [])])) :: []))) (mSeq (mSet 5 (mMake 0 (iD [.tup [], .tup []] (i_Net___init__ T)) (mArgs [mV 4]))) (mSeq (mSet 6 (mOp1 tup1 (mOp1 sortF (mLst (mArgs [mV 0, mV 1]))))) (mSeq (mIte (mOr (mOp2 neE (mProp 0 (f_Net_changing T) (mV 5)) (mV 6)) (mOp2 neE (mCall (f_ways T) (mArgs [mV 5, mTup (mArgs []), mV 6, mV 2])) (mDisp ((mV 0, mLst (mArgs [mV 2])) :: (mV 1, mLst (mArgs [mV 0, mC .non])) :: [])))) (mRt (mC (.bl false))) (mNx)) (mSeq (mIte (mOr (mOp2 neE (mCall (f_ways T) (mArgs [mV 5, mTup (mArgs []), mV 6, mV 3])) (mDisp ((mV 0, mLst (mArgs [mV 1, mV 3])) :: (mV 1, mLst (mArgs [mV 3])) :: []))) (mOp2 neE (mCall (f_led T) (mArgs [mV 5, mTup (mArgs [mV 1]), mTup (mArgs []), mV 2, mV 1])) (mLst (mArgs [mV 1, mC .non])))) (mRt (mC (.bl false))) (mNx)) (mSeq (mIte (mOp2 neE (mCall (f_reached T) (mArgs [mV 5, mTup (mArgs []), mTup (mArgs [mV 1]), mV 2, mV 1])) (mTup (mArgs [mV 6, mC (.bl true), mC (.bl true)]))) (mRt (mC (.bl false))) (mNx)) (mSeq (mIte (mOp2 neE (mCall (f_reached T) (mArgs [mV 5, mTup (mArgs [mV 1]), mTup (mArgs []), mV 2, mV 1])) (mTup (mArgs [mTup (mArgs [mV 1]), mC (.bl false), mC (.bl true)]))) (mRt (mC (.bl false))) (mNx)) (mRt (mAnd (mOp2 eqE (mCall (f_depths T) (mArgs [mV 5, mV 2, mC (.bl true)])) (mDisp ((mV 0, mC (.int 1)) :: (mV 1, mC .non) :: []))) (mOp2 eqE (mCall (f_depths T) (mArgs [mV 5, mV 3, mC (.bl false)])) (mDisp ((mV 0, mC (.int 2)) :: (mV 1, mC (.int 1)) :: [])))))))))))
def f__law_goals_right {R : Type} (T : Fm R) : Fm R := fnM 7 (m__law_goals_right T)
def m_does_lead {R : Type} (T : Fm R) : MS R := mSeq (mUnp (.tp [.nm 5, .nm 6]) (mV 3)) (mSeq (mIte (mOr (mOp2 ninD (mV 5) (mOp1 (fldD 0 "own_nodes") (mV 0))) (mNot (mOp1 allD (mLc [7] (mIt itemsOf (mV 6)) (.nm 7) (mC (.bl true)) (mOp2 inD (mV 7) (mOp2 idxD (mV 4) (mC (.int 1)))))))) (mRt (mC (.bl false))) (mNx)) (mRt (mOp2 eqD (mOp2 idxD (mCall (f_moment_ways T) (mArgs [mV 0, mV 1, mV 6, mV 2])) (mV 5)) (mOp2 idxD (mV 4) (mC (.int 0))))))
def f_does_lead {R : Type} (T : Fm R) : Fm R := fnM 8 (m_does_lead T)
def m_is_moment {R : Type} (T : Fm R) : MS R := mRt (mAnd (mCall (f_is_lot T) (mArgs [mV 0, mV 2])) (mOp1 allD (mLc [3] (mIt itemsOf (mV 2)) (.nm 3) (mC (.bl true)) (mOp2 inD (mV 3) (mV 1)))))
def f_is_moment {R : Type} (T : Fm R) : Fm R := fnM 4 (m_is_moment T)
def m_is_step {R : Type} (T : Fm R) : MS R := mSeq (mIte (mOr (mNot (mOp1 (isiD "tuple") (mV 2))) (mOr (mOp2 neD (mOp1 lenD (mV 2)) (mC (.int 2))) (mNot (mCall (f_is_moment T) (mArgs [mV 0, mV 1, mOp2 idxD (mV 2) (mC (.int 1))]))))) (mRt (mC (.bl false))) (mNx)) (mRt (mOr (mOp1 isN (mOp2 idxD (mV 2) (mC (.int 0)))) (mOp1 (isiD "str") (mOp2 idxD (mV 2) (mC (.int 0))))))
def f_is_step {R : Type} (T : Fm R) : Fm R := fnM 3 (m_is_step T)
def m_is_moving {R : Type} (T : Fm R) : MS R := mSeq (mEx (mCall (f_need_round T) (mArgs [mV 0, mV 1, mV 2]))) (mSeq (mEx (mCall (f_need_goal T) (mArgs [mV 0, mV 3]))) (mSeq (mEx (mCall (f_need_node T) (mArgs [mV 0, mV 4]))) (mSeq (mIte (mOr (mNot (mCall (f_is_list T) (mArgs [mV 5]))) (mOr (mOp2 eqD (mOp1 lenD (mV 5)) (mC (.int 0))) (mNot (mOp1 allD (mLc [6] (mIt itemsOf (mV 5)) (.nm 6) (mC (.bl true)) (mCall (f_is_step T) (mArgs [mV 0, mV 2, mV 6]))))))) (mRt (mC (.bl false))) (mNx)) (mSeq (mIte (mOp2 neD (mOp2 idxD (mOp2 idxD (mV 5) (mC (.int 0))) (mC (.int 0))) (mV 4)) (mRt (mC (.bl false))) (mNx)) (mRt (mOp1 allD (mLc [6, 7] (mZip (mArgs [mV 5, mSl (mV 5) (mPt (mC (.int 1))) (mNoP)])) (.tp [.nm 6, .nm 7]) (mC (.bl true)) (mCall (f_does_lead T) (mArgs [mV 0, mV 1, mV 3, mV 6, mV 7])))))))))
def f_is_moving {R : Type} (T : Fm R) : Fm R := fnM 8 (m_is_moving T)
def m__law_pair_right {R : Type} (T : Fm R) : MS R := mSeq (mSet 3 (mMake 0 (iD [.tup []] (i_Net___init__ T)) (mArgs [mDisp ((mV 2, mTup (mArgs [mDisp ((mV 0, mV 1) :: (mV 1, mV 2) :: []), mDisp ((mV 0, mV 2) :: (mV 1, mV 0) :: [])])) :: []), mLst (mArgs [mV 0])]))) (mSeq (mSet 4 (mOp1 tup1 (mOp1 sortF (mLst (mArgs [mV 0, mV 1]))))) (mSeq (mIte (mOr (mOp2 neE (mProp 0 (f_Net_changing T) (mV 3)) (mV 4)) (mOp2 neE (mCall (f_ways T) (mArgs [mV 3, mTup (mArgs []), mV 4, mV 2])) (mDisp ((mV 0, mLst (mArgs [mV 1, mV 2])) :: (mV 1, mLst (mArgs [mV 2, mV 0])) :: [])))) (mRt (mC (.bl false))) (mNx)) (mSeq (mIte (mOr (mOp2 neE (mCall (f_ring T) (mArgs [mV 3, mTup (mArgs []), mV 4, mV 2])) (mV 4)) (mOr (mOp2 neE (mCall (f_ring T) (mArgs [mV 3, mTup (mArgs []), mTup (mArgs [mV 1]), mV 2])) (mV 4)) (mOp2 neE (mCall (f_ring T) (mArgs [mV 3, mTup (mArgs [mV 1]), mTup (mArgs []), mV 2])) (mV 4)))) (mRt (mC (.bl false))) (mNx)) (mSeq (mIte (mOr (mOp1 notN (mCall (f_ring T) (mArgs [mV 3, mTup (mArgs []), mTup (mArgs [mV 0]), mV 2]))) (mOp2 neE (mCall (f_ranks T) (mArgs [mV 3, mTup (mArgs []), mTup (mArgs [mV 0]), mV 2])) (mDisp ((mV 0, mC (.int 1)) :: (mV 1, mC (.int 0)) :: [])))) (mRt (mC (.bl false))) (mNx)) (mSeq (mIte (mOr (mOp2 neE (mCall (f_led T) (mArgs [mV 3, mTup (mArgs [mV 1]), mTup (mArgs []), mV 2, mV 0])) (mLst (mArgs [mV 0, mV 1, mV 0]))) (mOp2 neE (mCall (f_led T) (mArgs [mV 3, mTup (mArgs [mV 0]), mTup (mArgs [mV 1]), mV 2, mV 1])) (mLst (mArgs [mV 1, mV 0, mV 2])))) (mRt (mC (.bl false))) (mNx)) (mSeq (mIte (mOr (mOp2 neE (mLc [6] (mIt itemsOf (mCall (f_twice T) (mArgs [mV 3, mTup (mArgs []), mV 4, mV 2, mV 1]))) (.nm 6) (mC (.bl true)) (mOp2 idxD (mV 6) (mC (.int 0)))) (mLst (mArgs [mV 1, mV 0, mV 1]))) (mOp1 notN (mCall (f_ring T) (mArgs [mV 3, mTup (mArgs [mV 0]), mTup (mArgs [mV 1]), mV 2])))) (mRt (mC (.bl false))) (mNx)) (mSeq (mSet 5 (mLst (mArgs [mTup (mArgs [mV 0, mTup (mArgs [])]), mTup (mArgs [mV 1, mV 4]), mTup (mArgs [mV 0, mV 4]), mTup (mArgs [mV 2, mV 4])]))) (mRt (mAnd (mCall (f_is_moving T) (mArgs [mV 3, mTup (mArgs []), mV 4, mV 2, mV 0, mV 5])) (mNot (mCall (f_is_moving T) (mArgs [mV 3, mTup (mArgs []), mV 4, mV 2, mV 0, mOp1 revD (mV 5)]))))))))))))
def f__law_pair_right {R : Type} (T : Fm R) : Fm R := fnM 7 (m__law_pair_right T)
def m__law_three_right {R : Type} (T : Fm R) : MS R := mSeq (mSet 4 (mMake 0 (iD [.tup [], .tup []] (i_Net___init__ T)) (mArgs [mDisp ((mV 3, mTup (mArgs [mDisp ((mV 0, mV 3) :: (mV 1, mV 3) :: (mV 2, mV 3) :: []), mDisp ((mV 0, mV 1) :: (mV 1, mV 2) :: (mV 2, mV 0) :: [])])) :: [])]))) (mSeq (mSet 5 (mOp1 tupL (mOp1 sortF (mLst (mArgs [mV 0, mV 1, mV 2]))))) (mSeq (mSet 6 (mIxT 5 (mOp1 minT (mV 5)))) (mSeq (mSet 7 (mLst (mArgs [mV 0, mV 1, mV 2]))) (mSeq (mSet 8 (mIndex (mV 7) (mOp2 idxD (mV 5) (mV 6)))) (mSeq (mSet 9 (mOp1 tup1 (mOp2 addD (mSl (mV 7) (mPt (mV 8)) (mNoP)) (mSl (mV 7) (mNoP) (mPt (mV 8)))))) (mSeq (mFor (mIt itemsOf (mLst (mArgs [mTup (mArgs [mTup (mArgs []), mV 5]), mTup (mArgs [mV 5, mTup (mArgs [])]), mTup (mArgs [mTup (mArgs [mV 0]), mOp1 tup1 (mOp1 sortF (mLst (mArgs [mV 1, mV 2])))])]))) (.tp [.nm 10, .nm 11]) (mIte (mOr (mOp2 neE (mCall (f_ring T) (mArgs [mV 4, mV 10, mV 11, mV 3])) (mV 9)) (mOp1 notN (mCall (f_ranks T) (mArgs [mV 4, mV 10, mV 11, mV 3])))) (mRt (mC (.bl false))) (mNx))) (mSeq (mSet 12 (mOp1 tup1 (mOp1 sortF (mLst (mArgs [mV 0, mV 1]))))) (mSeq (mIte (mOr (mOp1 notN (mCall (f_ring T) (mArgs [mV 4, mTup (mArgs []), mV 12, mV 3]))) (mOp2 neE (mCall (f_ranks T) (mArgs [mV 4, mTup (mArgs []), mV 12, mV 3])) (mDisp ((mV 0, mC (.int 2)) :: (mV 1, mC (.int 1)) :: (mV 2, mC (.int 0)) :: [])))) (mRt (mC (.bl false))) (mNx)) (mRt (mAnd (mOp2 eqE (mCall (f_reached T) (mArgs [mV 4, mTup (mArgs []), mV 12, mV 3, mV 0])) (mTup (mArgs [mV 5, mC (.bl true), mC (.bl false)]))) (mOp2 isB (mCall (f_is_sound T) (mArgs [mV 4])) (mC (.bl false)))))))))))))
def f__law_three_right {R : Type} (T : Fm R) : Fm R := fnM 13 (m__law_three_right T)
end RW
namespace RW
open PySem L2
def m_law_k15 (T : Fm Dr) : MS Dr := mSeq (mFor (mRng1 (mOp2 addD (mC (.int 5)) (mOp2 min2 (mOp1 lenD (mV 0)) (mC (.int 20))))) (.nm 2) (mSeq (mUnp (.tp [.nm 3, .nm 4, .nm 5, .nm 6, .nm 7]) (mCall (f__law_words T) (mArgs [mV 1, mC (.int 5)]))) (mSeq (mIte (mOr (mNot (mCall (f__law_pair_right T) (mArgs [mV 3, mV 4, mV 6]))) (mNot (mCall (f__law_three_right T) (mArgs [mV 3, mV 4, mV 5, mV 6])))) (mRt (mC (.bl false))) (mNx)) (mIte (mNot (mCall (f__law_goals_right T) (mArgs [mV 3, mV 4, mV 6, mV 7]))) (mRt (mC (.bl false))) (mNx))))) (mRt (mC (.bl true)))
end RW
set_option maxHeartbeats 0
namespace RW
open PySem L2
section
variable {g : G} {P : Program} {w : World} {mg : Str → Option Value} {base h : Heap}
theorem G_is_list (kin : g.K.In h) (gn : h.Ns mainGlobals mg) (c : He.SaysD fa fn g.K) : mg "is_list" = some (.ref (He.ga g.K "is_list")) := He.glo_ok kin gn (c.fact 5 (f := .glo "is_list") rfl)
theorem G_is_name (kin : g.K.In h) (gn : h.Ns mainGlobals mg) (c : He.SaysD fa fn g.K) : mg "is_name" = some (.ref (He.ga g.K "is_name")) := He.glo_ok kin gn (c.fact 6 (f := .glo "is_name") rfl)
theorem G_are_names (kin : g.K.In h) (gn : h.Ns mainGlobals mg) (c : He.SaysD fa fn g.K) : mg "are_names" = some (.ref (He.ga g.K "are_names")) := He.glo_ok kin gn (c.fact 7 (f := .glo "are_names") rfl)
theorem G_is_place (kin : g.K.In h) (gn : h.Ns mainGlobals mg) (c : He.SaysD fa fn g.K) : mg "is_place" = some (.ref (He.ga g.K "is_place")) := He.glo_ok kin gn (c.fact 8 (f := .glo "is_place") rfl)
theorem G_is_table (kin : g.K.In h) (gn : h.Ns mainGlobals mg) (c : He.SaysD fa fn g.K) : mg "is_table" = some (.ref (He.ga g.K "is_table")) := He.glo_ok kin gn (c.fact 9 (f := .glo "is_table") rfl)
theorem G_nodes_of (kin : g.K.In h) (gn : h.Ns mainGlobals mg) (c : He.SaysD fa fn g.K) : mg "nodes_of" = some (.ref (He.ga g.K "nodes_of")) := He.glo_ok kin gn (c.fact 10 (f := .glo "nodes_of") rfl)
theorem G_are_tables (kin : g.K.In h) (gn : h.Ns mainGlobals mg) (c : He.SaysD fa fn g.K) : mg "are_tables" = some (.ref (He.ga g.K "are_tables")) := He.glo_ok kin gn (c.fact 11 (f := .glo "are_tables") rfl)
theorem G_are_nodes (kin : g.K.In h) (gn : h.Ns mainGlobals mg) (c : He.SaysD fa fn g.K) : mg "are_nodes" = some (.ref (He.ga g.K "are_nodes")) := He.glo_ok kin gn (c.fact 12 (f := .glo "are_nodes") rfl)
theorem G_ordered (kin : g.K.In h) (gn : h.Ns mainGlobals mg) (c : He.SaysD fa fn g.K) : mg "ordered" = some (.ref (He.ga g.K "ordered")) := He.glo_ok kin gn (c.fact 13 (f := .glo "ordered") rfl)
theorem G_Net (kin : g.K.In h) (gn : h.Ns mainGlobals mg) (c : He.SaysD fa fn g.K) : mg "Net" = some (.ref (He.ga g.K "Net")) := He.glo_ok kin gn (c.fact 14 (f := .glo "Net") rfl)
theorem G_need_net (kin : g.K.In h) (gn : h.Ns mainGlobals mg) (c : He.SaysD fa fn g.K) : mg "need_net" = some (.ref (He.ga g.K "need_net")) := He.glo_ok kin gn (c.fact 15 (f := .glo "need_net") rfl)
theorem G_need_goal (kin : g.K.In h) (gn : h.Ns mainGlobals mg) (c : He.SaysD fa fn g.K) : mg "need_goal" = some (.ref (He.ga g.K "need_goal")) := He.glo_ok kin gn (c.fact 16 (f := .glo "need_goal") rfl)
theorem G_need_node (kin : g.K.In h) (gn : h.Ns mainGlobals mg) (c : He.SaysD fa fn g.K) : mg "need_node" = some (.ref (He.ga g.K "need_node")) := He.glo_ok kin gn (c.fact 17 (f := .glo "need_node") rfl)
theorem G_depths_by (kin : g.K.In h) (gn : h.Ns mainGlobals mg) (c : He.SaysD fa fn g.K) : mg "depths_by" = some (.ref (He.ga g.K "depths_by")) := He.glo_ok kin gn (c.fact 18 (f := .glo "depths_by") rfl)
theorem G_depths (kin : g.K.In h) (gn : h.Ns mainGlobals mg) (c : He.SaysD fa fn g.K) : mg "depths" = some (.ref (He.ga g.K "depths")) := He.glo_ok kin gn (c.fact 19 (f := .glo "depths") rfl)
theorem G_is_sound (kin : g.K.In h) (gn : h.Ns mainGlobals mg) (c : He.SaysD fa fn g.K) : mg "is_sound" = some (.ref (He.ga g.K "is_sound")) := He.glo_ok kin gn (c.fact 20 (f := .glo "is_sound") rfl)
theorem G_is_lot (kin : g.K.In h) (gn : h.Ns mainGlobals mg) (c : He.SaysD fa fn g.K) : mg "is_lot" = some (.ref (He.ga g.K "is_lot")) := He.glo_ok kin gn (c.fact 21 (f := .glo "is_lot") rfl)
theorem G_need_done (kin : g.K.In h) (gn : h.Ns mainGlobals mg) (c : He.SaysD fa fn g.K) : mg "need_done" = some (.ref (He.ga g.K "need_done")) := He.glo_ok kin gn (c.fact 22 (f := .glo "need_done") rfl)
theorem G_need_round (kin : g.K.In h) (gn : h.Ns mainGlobals mg) (c : He.SaysD fa fn g.K) : mg "need_round" = some (.ref (He.ga g.K "need_round")) := He.glo_ok kin gn (c.fact 23 (f := .glo "need_round") rfl)
theorem G_mixture (kin : g.K.In h) (gn : h.Ns mainGlobals mg) (c : He.SaysD fa fn g.K) : mg "mixture" = some (.ref (He.ga g.K "mixture")) := He.glo_ok kin gn (c.fact 24 (f := .glo "mixture") rfl)
theorem G_moment_ways (kin : g.K.In h) (gn : h.Ns mainGlobals mg) (c : He.SaysD fa fn g.K) : mg "moment_ways" = some (.ref (He.ga g.K "moment_ways")) := He.glo_ok kin gn (c.fact 25 (f := .glo "moment_ways") rfl)
theorem G_next_nodes (kin : g.K.In h) (gn : h.Ns mainGlobals mg) (c : He.SaysD fa fn g.K) : mg "next_nodes" = some (.ref (He.ga g.K "next_nodes")) := He.glo_ok kin gn (c.fact 26 (f := .glo "next_nodes") rfl)
theorem G_ways (kin : g.K.In h) (gn : h.Ns mainGlobals mg) (c : He.SaysD fa fn g.K) : mg "ways" = some (.ref (He.ga g.K "ways")) := He.glo_ok kin gn (c.fact 27 (f := .glo "ways") rfl)
theorem G_rings_from (kin : g.K.In h) (gn : h.Ns mainGlobals mg) (c : He.SaysD fa fn g.K) : mg "rings_from" = some (.ref (He.ga g.K "rings_from")) := He.glo_ok kin gn (c.fact 28 (f := .glo "rings_from") rfl)
theorem G_ring_in (kin : g.K.In h) (gn : h.Ns mainGlobals mg) (c : He.SaysD fa fn g.K) : mg "ring_in" = some (.ref (He.ga g.K "ring_in")) := He.glo_ok kin gn (c.fact 29 (f := .glo "ring_in") rfl)
theorem G_ring (kin : g.K.In h) (gn : h.Ns mainGlobals mg) (c : He.SaysD fa fn g.K) : mg "ring" = some (.ref (He.ga g.K "ring")) := He.glo_ok kin gn (c.fact 30 (f := .glo "ring") rfl)
theorem G_ranks_in (kin : g.K.In h) (gn : h.Ns mainGlobals mg) (c : He.SaysD fa fn g.K) : mg "ranks_in" = some (.ref (He.ga g.K "ranks_in")) := He.glo_ok kin gn (c.fact 31 (f := .glo "ranks_in") rfl)
theorem G_ranks (kin : g.K.In h) (gn : h.Ns mainGlobals mg) (c : He.SaysD fa fn g.K) : mg "ranks" = some (.ref (He.ga g.K "ranks")) := He.glo_ok kin gn (c.fact 32 (f := .glo "ranks") rfl)
theorem G_led_by (kin : g.K.In h) (gn : h.Ns mainGlobals mg) (c : He.SaysD fa fn g.K) : mg "led_by" = some (.ref (He.ga g.K "led_by")) := He.glo_ok kin gn (c.fact 33 (f := .glo "led_by") rfl)
theorem G_led (kin : g.K.In h) (gn : h.Ns mainGlobals mg) (c : He.SaysD fa fn g.K) : mg "led" = some (.ref (He.ga g.K "led")) := He.glo_ok kin gn (c.fact 34 (f := .glo "led") rfl)
theorem G_is_moment (kin : g.K.In h) (gn : h.Ns mainGlobals mg) (c : He.SaysD fa fn g.K) : mg "is_moment" = some (.ref (He.ga g.K "is_moment")) := He.glo_ok kin gn (c.fact 35 (f := .glo "is_moment") rfl)
theorem G_is_step (kin : g.K.In h) (gn : h.Ns mainGlobals mg) (c : He.SaysD fa fn g.K) : mg "is_step" = some (.ref (He.ga g.K "is_step")) := He.glo_ok kin gn (c.fact 36 (f := .glo "is_step") rfl)
theorem G_does_lead (kin : g.K.In h) (gn : h.Ns mainGlobals mg) (c : He.SaysD fa fn g.K) : mg "does_lead" = some (.ref (He.ga g.K "does_lead")) := He.glo_ok kin gn (c.fact 37 (f := .glo "does_lead") rfl)
theorem G_is_moving (kin : g.K.In h) (gn : h.Ns mainGlobals mg) (c : He.SaysD fa fn g.K) : mg "is_moving" = some (.ref (He.ga g.K "is_moving")) := He.glo_ok kin gn (c.fact 38 (f := .glo "is_moving") rfl)
theorem G_reached_in (kin : g.K.In h) (gn : h.Ns mainGlobals mg) (c : He.SaysD fa fn g.K) : mg "reached_in" = some (.ref (He.ga g.K "reached_in")) := He.glo_ok kin gn (c.fact 39 (f := .glo "reached_in") rfl)
theorem G_reached (kin : g.K.In h) (gn : h.Ns mainGlobals mg) (c : He.SaysD fa fn g.K) : mg "reached" = some (.ref (He.ga g.K "reached")) := He.glo_ok kin gn (c.fact 40 (f := .glo "reached") rfl)
theorem G_lasso_from (kin : g.K.In h) (gn : h.Ns mainGlobals mg) (c : He.SaysD fa fn g.K) : mg "lasso_from" = some (.ref (He.ga g.K "lasso_from")) := He.glo_ok kin gn (c.fact 41 (f := .glo "lasso_from") rfl)
theorem G_moment_of (kin : g.K.In h) (gn : h.Ns mainGlobals mg) (c : He.SaysD fa fn g.K) : mg "moment_of" = some (.ref (He.ga g.K "moment_of")) := He.glo_ok kin gn (c.fact 42 (f := .glo "moment_of") rfl)
theorem G_twice (kin : g.K.In h) (gn : h.Ns mainGlobals mg) (c : He.SaysD fa fn g.K) : mg "twice" = some (.ref (He.ga g.K "twice")) := He.glo_ok kin gn (c.fact 43 (f := .glo "twice") rfl)
theorem G__law_begin (kin : g.K.In h) (gn : h.Ns mainGlobals mg) (c : He.SaysD fa fn g.K) : mg "_law_begin" = some (.ref (He.ga g.K "_law_begin")) := He.glo_ok kin gn (c.fact 44 (f := .glo "_law_begin") rfl)
theorem G__law_blend (kin : g.K.In h) (gn : h.Ns mainGlobals mg) (c : He.SaysD fa fn g.K) : mg "_law_blend" = some (.ref (He.ga g.K "_law_blend")) := He.glo_ok kin gn (c.fact 45 (f := .glo "_law_blend") rfl)
theorem G__law_pick (kin : g.K.In h) (gn : h.Ns mainGlobals mg) (c : He.SaysD fa fn g.K) : mg "_law_pick" = some (.ref (He.ga g.K "_law_pick")) := He.glo_ok kin gn (c.fact 46 (f := .glo "_law_pick") rfl)
theorem G__law_take (kin : g.K.In h) (gn : h.Ns mainGlobals mg) (c : He.SaysD fa fn g.K) : mg "_law_take" = some (.ref (He.ga g.K "_law_take")) := He.glo_ok kin gn (c.fact 47 (f := .glo "_law_take") rfl)
theorem G__law_words (kin : g.K.In h) (gn : h.Ns mainGlobals mg) (c : He.SaysD fa fn g.K) : mg "_law_words" = some (.ref (He.ga g.K "_law_words")) := He.glo_ok kin gn (c.fact 48 (f := .glo "_law_words") rfl)
theorem G__law_pair_right (kin : g.K.In h) (gn : h.Ns mainGlobals mg) (c : He.SaysD fa fn g.K) : mg "_law_pair_right" = some (.ref (He.ga g.K "_law_pair_right")) := He.glo_ok kin gn (c.fact 49 (f := .glo "_law_pair_right") rfl)
theorem G__law_three_right (kin : g.K.In h) (gn : h.Ns mainGlobals mg) (c : He.SaysD fa fn g.K) : mg "_law_three_right" = some (.ref (He.ga g.K "_law_three_right")) := He.glo_ok kin gn (c.fact 50 (f := .glo "_law_three_right") rfl)
theorem G__law_goals_right (kin : g.K.In h) (gn : h.Ns mainGlobals mg) (c : He.SaysD fa fn g.K) : mg "_law_goals_right" = some (.ref (He.ga g.K "_law_goals_right")) := He.glo_ok kin gn (c.fact 51 (f := .glo "_law_goals_right") rfl)
theorem G_law (kin : g.K.In h) (gn : h.Ns mainGlobals mg) (c : He.SaysD fa fn g.K) : mg "law" = some (.ref (He.ga g.K "law")) := He.glo_ok kin gn (c.fact 52 (f := .glo "law") rfl)
theorem V_LETTERS (kin : g.K.In h) (gn : h.Ns mainGlobals mg) (c : He.SaysD fa fn g.K) : ∃ t, mg "LETTERS" = some (.str "abcdefghijklmnopqrstuvwxyz" t) := He.str_ok kin gn (c.fact 53 (f := .str "LETTERS" "abcdefghijklmnopqrstuvwxyz") rfl)
theorem V_LONGEST (kin : g.K.In h) (gn : h.Ns mainGlobals mg) (c : He.SaysD fa fn g.K) : ∃ t, mg "LONGEST" = some (.int 6 t) := He.int_ok kin gn (c.fact 54 (f := .int "LONGEST" 6) rfl)
theorem V_MOST_GOALS (kin : g.K.In h) (gn : h.Ns mainGlobals mg) (c : He.SaysD fa fn g.K) : ∃ t, mg "MOST_GOALS" = some (.int 2 t) := He.int_ok kin gn (c.fact 55 (f := .int "MOST_GOALS" 2) rfl)
theorem V_MOST_NODES (kin : g.K.In h) (gn : h.Ns mainGlobals mg) (c : He.SaysD fa fn g.K) : ∃ t, mg "MOST_NODES" = some (.int 6 t) := He.int_ok kin gn (c.fact 56 (f := .int "MOST_NODES" 6) rfl)
theorem V_MOST_POSTS (kin : g.K.In h) (gn : h.Ns mainGlobals mg) (c : He.SaysD fa fn g.K) : ∃ t, mg "MOST_POSTS" = some (.int 2 t) := He.int_ok kin gn (c.fact 57 (f := .int "MOST_POSTS" 2) rfl)
theorem Cl_0 (c : He.SaysD fa fn g.K) (hcl : g.cls = clsOf g.K) : Cls g.K (g.cls 0) := by rw [hcl]; exact He.cls_ok (c.fact 58 (f := .cls "Net") rfl)
theorem GC_0 (kin : g.K.In h) (gn : h.Ns mainGlobals mg) (c : He.SaysD fa fn g.K) (hcl : g.cls = clsOf g.K) : mg "Net" = some (.ref (g.cls 0)) := by rw [hcl]; exact G_Net kin gn c
theorem Mk_0 (c : He.SaysD fa fn g.K) (hcl : g.cls = clsOf g.K) : Mk g.K (g.cls 0) (He.ma g.K (He.ga g.K "Net") "__init__") := by rw [hcl]; exact He.mkr_ok (c.fact 59 (f := .mkr "Net") rfl)
theorem Me_0_does_change (c : He.SaysD fa fn g.K) (hcl : g.cls = clsOf g.K) : Meth g.K (g.cls 0) "does_change" (He.ma g.K (He.ga g.K "Net") "does_change") := by rw [hcl]; exact He.meth_ok (c.fact 60 (f := .meth "Net" "does_change") rfl)
theorem Na_0_own_tables (c : He.SaysD fa fn g.K) (hcl : g.cls = clsOf g.K) : NoAttr g.K (g.cls 0) "own_tables" := by rw [hcl]; exact He.noat_ok (c.fact 65 (f := .noat "Net" "own_tables") rfl)
theorem Na_0_own_goals (c : He.SaysD fa fn g.K) (hcl : g.cls = clsOf g.K) : NoAttr g.K (g.cls 0) "own_goals" := by rw [hcl]; exact He.noat_ok (c.fact 66 (f := .noat "Net" "own_goals") rfl)
theorem Na_0_own_nodes (c : He.SaysD fa fn g.K) (hcl : g.cls = clsOf g.K) : NoAttr g.K (g.cls 0) "own_nodes" := by rw [hcl]; exact He.noat_ok (c.fact 67 (f := .noat "Net" "own_nodes") rfl)
theorem Na_0_own_sources (c : He.SaysD fa fn g.K) (hcl : g.cls = clsOf g.K) : NoAttr g.K (g.cls 0) "own_sources" := by rw [hcl]; exact He.noat_ok (c.fact 68 (f := .noat "Net" "own_sources") rfl)
theorem Na_0_own_posts (c : He.SaysD fa fn g.K) (hcl : g.cls = clsOf g.K) : NoAttr g.K (g.cls 0) "own_posts" := by rw [hcl]; exact He.noat_ok (c.fact 69 (f := .noat "Net" "own_posts") rfl)
theorem Na_0_own_changing (c : He.SaysD fa fn g.K) (hcl : g.cls = clsOf g.K) : NoAttr g.K (g.cls 0) "own_changing" := by rw [hcl]; exact He.noat_ok (c.fact 70 (f := .noat "Net" "own_changing") rfl)
theorem Z_len (kin : g.K.In h) (gn : h.Ns mainGlobals mg) (c : He.SaysD fa fn g.K) : mg "len" = none := He.free_ok kin gn (c.fact 71 (f := .free "len") rfl)
theorem Z_isinstance (kin : g.K.In h) (gn : h.Ns mainGlobals mg) (c : He.SaysD fa fn g.K) : mg "isinstance" = none := He.free_ok kin gn (c.fact 72 (f := .free "isinstance") rfl)
theorem Z_sorted (kin : g.K.In h) (gn : h.Ns mainGlobals mg) (c : He.SaysD fa fn g.K) : mg "sorted" = none := He.free_ok kin gn (c.fact 73 (f := .free "sorted") rfl)
theorem Z_tuple (kin : g.K.In h) (gn : h.Ns mainGlobals mg) (c : He.SaysD fa fn g.K) : mg "tuple" = none := He.free_ok kin gn (c.fact 74 (f := .free "tuple") rfl)
theorem Z_all (kin : g.K.In h) (gn : h.Ns mainGlobals mg) (c : He.SaysD fa fn g.K) : mg "all" = none := He.free_ok kin gn (c.fact 75 (f := .free "all") rfl)
theorem Z_any (kin : g.K.In h) (gn : h.Ns mainGlobals mg) (c : He.SaysD fa fn g.K) : mg "any" = none := He.free_ok kin gn (c.fact 76 (f := .free "any") rfl)
theorem Z_range (kin : g.K.In h) (gn : h.Ns mainGlobals mg) (c : He.SaysD fa fn g.K) : mg "range" = none := He.free_ok kin gn (c.fact 77 (f := .free "range") rfl)
theorem Z_list (kin : g.K.In h) (gn : h.Ns mainGlobals mg) (c : He.SaysD fa fn g.K) : mg "list" = none := He.free_ok kin gn (c.fact 78 (f := .free "list") rfl)
theorem Z_dict (kin : g.K.In h) (gn : h.Ns mainGlobals mg) (c : He.SaysD fa fn g.K) : mg "dict" = none := He.free_ok kin gn (c.fact 79 (f := .free "dict") rfl)
theorem Z_int (kin : g.K.In h) (gn : h.Ns mainGlobals mg) (c : He.SaysD fa fn g.K) : mg "int" = none := He.free_ok kin gn (c.fact 80 (f := .free "int") rfl)
theorem Z_min (kin : g.K.In h) (gn : h.Ns mainGlobals mg) (c : He.SaysD fa fn g.K) : mg "min" = none := He.free_ok kin gn (c.fact 82 (f := .free "min") rfl)
theorem Z_max (kin : g.K.In h) (gn : h.Ns mainGlobals mg) (c : He.SaysD fa fn g.K) : mg "max" = none := He.free_ok kin gn (c.fact 83 (f := .free "max") rfl)
theorem Z_abs (kin : g.K.In h) (gn : h.Ns mainGlobals mg) (c : He.SaysD fa fn g.K) : mg "abs" = none := He.free_ok kin gn (c.fact 84 (f := .free "abs") rfl)
theorem Z_set (kin : g.K.In h) (gn : h.Ns mainGlobals mg) (c : He.SaysD fa fn g.K) : mg "set" = none := He.free_ok kin gn (c.fact 86 (f := .free "set") rfl)
theorem Z_zip (kin : g.K.In h) (gn : h.Ns mainGlobals mg) (c : He.SaysD fa fn g.K) : mg "zip" = none := He.free_ok kin gn (c.fact 87 (f := .free "zip") rfl)
theorem Z_str (kin : g.K.In h) (gn : h.Ns mainGlobals mg) (c : He.SaysD fa fn g.K) : mg "str" = none := He.free_ok kin gn (c.fact 88 (f := .free "str") rfl)
variable (kin : g.K.In h) (gn : h.Ns mainGlobals mg) (c : He.SaysD fa fn g.K) (hcl : g.cls = clsOf g.K) (sy : ∃ u, base.get? sysModules = some u) {T : Fm g.R.S}
variable (isc : exB g.K = true) (gt : GetsD gts g.K)
include kin gn c hcl sy isc gt
omit kin gn c sy isc gt in
theorem hn1 : g.cls 1000 = 1 := by rw [hcl]; rfl
omit kin gn sy hcl gt in
theorem Df_Net___init___1 : KTup g.K (He.dflAt ("Net", some "__init__") 1 g.K) [] := tupB_ok (xs := []) (by have := isc; unfold exB at this; simp only [Bool.and_eq_true] at this; exact this.1.2)
omit kin gn sy hcl gt in
theorem Df_Net___init___0 : KTup g.K (He.dflAt ("Net", some "__init__") 0 g.K) [] := tupB_ok (xs := []) (by have := isc; unfold exB at this; simp only [Bool.and_eq_true] at this; exact this.2)
omit kin gn sy gt in
theorem isc_0 : IsC g.K (g.cls 0) := by rw [hcl]; exact isCB_ok (He.cls_ok (c.fact 58 (f := .cls "Net") rfl)) (by have := isc; unfold exB at this; simp only [Bool.and_eq_true] at this; exact this.1.1)
omit kin gn c sy isc in
theorem Pr_0_changing : PropOf g.K (g.cls 0) "changing" (pAd g.K "Net" "changing") (gAd g.K "Net" "changing") := by rw [hcl]; exact gt.prop 0 (q := ⟨"Net", "changing", "changing", "Net.changing", inClass (top 22) 7⟩) rfl
theorem ok__law_begin : Fu g P w mg base 1 "_law_begin" "_law_begin" (top 54) ["script"] (f__law_begin T) (He.ga g.K "_law_begin") := by
  refine fu_of (N := ["script", "great", "cell"]) sy (c.def_ 43 (d := ⟨("_law_begin", none), "_law_begin", "_law_begin", defArgs (top 54), defBody (top 54), defScope (top 54), [], []⟩) rfl) ⟨rfl, rfl, rfl, by decide +kernel, rfl, by decide +kernel, by decide +kernel⟩ (fun _ _ _ _ _ _ us hl => match us, hl with | [_], _ => rfl) fun cdv A outer s H o => ?_
  exact b_cons (s_setLc [("cell", 2)] o (i_any o (d_var (pv 0))) (blk_of (by kernel_rfl)) (fun _ _ _ _ _ => g_name o.blk.nd) (fun _ _ _ _ _ => c_one (t_ge (d_abs rfl (Z_abs kin gn c) (d_var (pv 2))) (d_pow (d_int) (d_int)))) (fun _ _ _ _ _ => d_sub (d_abs rfl (Z_abs kin gn c) (d_var (pv 2))) (d_pow (d_int) (d_int))) (sw_true rfl rfl rfl rfl)) (b_one (s_ret (d_disp o (p_cons (d_str) (d_var (pv 1)) (p_cons (d_str) (d_int) (p_cons (d_str) (d_lc [("cell", 2)] o (i_any o (d_var (pv 0))) (blk_of (by kernel_rfl)) (fun _ _ _ _ _ => g_name o.blk.nd) (fun _ _ _ _ _ => c_nil) (fun _ _ _ _ _ => d_abs rfl (Z_abs kin gn c) (d_var (pv 2)))) (p_cons (d_str) (d_int) (p_nil))))))))
variable (ok__law_take : Fu g P w mg base 3 "_law_take" "_law_take" (top 57) ["draw", "size"] (T) (He.ga g.K "_law_take"))
include ok__law_take
theorem ok_Net_does_change : Fu g P w mg base 1 "does_change" "Net.does_change" (inClass (top 22) 1) ["self", "node"] (f_Net_does_change T) (He.ma g.K (He.ga g.K "Net") "does_change") := by
  refine fu_of (N := ["self", "node", "pair"]) sy (c.def_ 10 (d := ⟨("Net", some "does_change"), "does_change", "Net.does_change", defArgs (inClass (top 22) 1), defBody (inClass (top 22) 1), defScope (inClass (top 22) 1), [], []⟩) rfl) ⟨rfl, rfl, rfl, by decide +kernel, rfl, by decide +kernel, by decide +kernel⟩ (fun _ _ _ _ _ _ us hl => match us, hl with | [_, _], _ => rfl) fun cdv A outer s H o => ?_
  exact b_one (s_ret (d_any o rfl (Z_any kin gn c) (d_lc [("pair", 2)] o (i_vals (d_fld 0 (Cl_0 c hcl) (Na_0_own_tables c hcl) (d_var (pv 0)))) (blk_of (by kernel_rfl)) (fun _ _ _ _ _ => g_name o.blk.nd) (fun _ _ _ _ _ => c_nil) (fun _ _ _ _ _ => d_ne o.blk (d_idx o.blk (d_idx o.blk (d_var (pv 2)) (d_int)) (d_var (pv 1))) (d_idx o.blk (d_idx o.blk (d_var (pv 2)) (d_int)) (d_var (pv 1)))))))
theorem ok_is_list : Fu g P w mg base 1 "is_list" "is_list" (top 13) ["thing"] (f_is_list T) (He.ga g.K "is_list") := by
  refine fu_of (N := ["thing"]) sy (c.def_ 0 (d := ⟨("is_list", none), "is_list", "is_list", defArgs (top 13), defBody (top 13), defScope (top 13), [], []⟩) rfl) ⟨rfl, rfl, rfl, by decide +kernel, rfl, by decide +kernel, by decide +kernel⟩ (fun _ _ _ _ _ _ us hl => match us, hl with | [_], _ => rfl) fun cdv A outer s H o => ?_
  exact b_one (s_ret (d_isi2 o rfl (Z_isinstance kin gn c) rfl (Z_list kin gn c) rfl (Z_tuple kin gn c) (d_var (pv 0))))
theorem ok_are_nodes : Fu g P w mg base 2 "are_nodes" "are_nodes" (top 20) ["nodes", "thing"] (f_are_nodes T) (He.ga g.K "are_nodes") := by
  have ok_is_list := ok_is_list (P := P) (w := w) (base := base) kin gn c hcl sy isc gt ok__law_take
  refine fu_of (N := ["nodes", "thing", "node"]) sy (c.def_ 7 (d := ⟨("are_nodes", none), "are_nodes", "are_nodes", defArgs (top 20), defBody (top 20), defScope (top 20), [], []⟩) rfl) ⟨rfl, rfl, rfl, by decide +kernel, rfl, by decide +kernel, by decide +kernel⟩ (fun _ _ _ _ _ _ us hl => match us, hl with | [_, _], _ => rfl) fun cdv A outer s H o => ?_
  exact b_cons (s_if (DW.t (w_or (t_not (t_val (d_callF ok_is_list o (G_is_list kin gn c) (a_cons (d_var (pv 1)) (a_nil))))) (w_one_or (t_not (t_val (d_all o rfl (Z_all kin gn c) (d_lc [("node", 2)] o (i_any o (d_var (pv 1))) (blk_of (by kernel_rfl)) (fun _ _ _ _ _ => g_name o.blk.nd) (fun _ _ _ _ _ => c_nil) (fun _ _ _ _ _ => d_and (d_isi o.blk rfl (Z_isinstance kin gn c) rfl (Z_str kin gn c) (d_var (pv 2))) (d_one (d_in o.blk (d_var (pv 2)) (d_var (pv 0)))))))))))) (b_one (s_ret (d_bl))) (b_nil)) (b_one (s_ret (d_eq o (d_lenSet o rfl (Z_len kin gn c) rfl (Z_set kin gn c) (d_var (pv 1))) (d_len' o rfl (Z_len kin gn c) (d_var (pv 1))))))
theorem ok_is_name : Fu g P w mg base 1 "is_name" "is_name" (top 14) ["thing"] (f_is_name T) (He.ga g.K "is_name") := by
  refine fu_of (N := ["thing", "sign"]) sy (c.def_ 1 (d := ⟨("is_name", none), "is_name", "is_name", defArgs (top 14), defBody (top 14), defScope (top 14), [], []⟩) rfl) ⟨rfl, rfl, rfl, by decide +kernel, rfl, by decide +kernel, by decide +kernel⟩ (fun _ _ _ _ _ _ us hl => match us, hl with | [_], _ => rfl) fun cdv A outer s H o => ?_
  exact b_one (s_ret (d_and (d_isi o rfl (Z_isinstance kin gn c) rfl (Z_str kin gn c) (d_var (pv 0))) (d_and (d_lele (d_int) (d_len' o rfl (Z_len kin gn c) (d_var (pv 0))) (d_gint rfl (V_LONGEST kin gn c).choose_spec)) (d_one (d_all o rfl (Z_all kin gn c) (d_lc [("sign", 1)] o (i_any o (d_var (pv 0))) (blk_of (by kernel_rfl)) (fun _ _ _ _ _ => g_name o.blk.nd) (fun _ _ _ _ _ => c_nil) (fun _ _ _ _ _ => d_in o.blk (d_var (pv 1)) (d_gstr rfl (V_LETTERS kin gn c).choose_spec))))))))
theorem ok_are_names : Fu g P w mg base 2 "are_names" "are_names" (top 15) ["thing", "most"] (f_are_names T) (He.ga g.K "are_names") := by
  have ok_is_name := ok_is_name (P := P) (w := w) (base := base) kin gn c hcl sy isc gt ok__law_take
  refine fu_of (N := ["thing", "most", "key"]) sy (c.def_ 2 (d := ⟨("are_names", none), "are_names", "are_names", defArgs (top 15), defBody (top 15), defScope (top 15), [], []⟩) rfl) ⟨rfl, rfl, rfl, by decide +kernel, rfl, by decide +kernel, by decide +kernel⟩ (fun _ _ _ _ _ _ us hl => match us, hl with | [_, _], _ => rfl) fun cdv A outer s H o => ?_
  exact b_one (s_ret (d_and (d_isi o rfl (Z_isinstance kin gn c) rfl (Z_dict kin gn c) (d_var (pv 0))) (d_and (d_lele (d_int) (d_len' o rfl (Z_len kin gn c) (d_var (pv 0))) (d_var (pv 1))) (d_one (d_all o rfl (Z_all kin gn c) (d_lc [("key", 2)] o (i_any o (d_var (pv 0))) (blk_of (by kernel_rfl)) (fun _ _ _ _ _ => g_name o.blk.nd) (fun _ _ _ _ _ => c_nil) (fun _ _ _ _ _ => d_callF ok_is_name o.blk (G_is_name kin gn c) (a_cons (d_var (pv 2)) (a_nil)))))))))
theorem ok_is_place : Fu g P w mg base 1 "is_place" "is_place" (top 16) ["nodes", "goal", "node", "thing"] (f_is_place T) (He.ga g.K "is_place") := by
  refine fu_of (N := ["nodes", "goal", "node", "thing"]) sy (c.def_ 3 (d := ⟨("is_place", none), "is_place", "is_place", defArgs (top 16), defBody (top 16), defScope (top 16), [], []⟩) rfl) ⟨rfl, rfl, rfl, by decide +kernel, rfl, by decide +kernel, by decide +kernel⟩ (fun _ _ _ _ _ _ us hl => match us, hl with | [_, _, _, _], _ => rfl) fun cdv A outer s H o => ?_
  exact b_cons (s_if (t_isN (d_var (pv 3))) (b_one (s_ret (d_bl))) (b_nil)) (b_one (s_ret (d_and (d_isi o rfl (Z_isinstance kin gn c) rfl (Z_str kin gn c) (d_var (pv 3))) (d_one (d_or (d_eq o (d_var (pv 3)) (d_var (pv 1))) (d_one (d_and (d_in o (d_var (pv 3)) (d_var (pv 0))) (d_one (d_ne o (d_var (pv 3)) (d_var (pv 2)))))))))))
theorem ok_is_table : Fu g P w mg base 2 "is_table" "is_table" (top 17) ["nodes", "goal", "thing"] (f_is_table T) (He.ga g.K "is_table") := by
  have ok_is_place := ok_is_place (P := P) (w := w) (base := base) kin gn c hcl sy isc gt ok__law_take
  refine fu_of (N := ["nodes", "goal", "thing", "node"]) sy (c.def_ 4 (d := ⟨("is_table", none), "is_table", "is_table", defArgs (top 17), defBody (top 17), defScope (top 17), [], []⟩) rfl) ⟨rfl, rfl, rfl, by decide +kernel, rfl, by decide +kernel, by decide +kernel⟩ (fun _ _ _ _ _ _ us hl => match us, hl with | [_, _, _], _ => rfl) fun cdv A outer s H o => ?_
  exact b_cons (s_if (DW.t (w_or (t_not (t_val (d_isi o rfl (Z_isinstance kin gn c) rfl (Z_dict kin gn c) (d_var (pv 2))))) (w_or (t_ne o (d_len' o rfl (Z_len kin gn c) (d_var (pv 2))) (d_len' o rfl (Z_len kin gn c) (d_var (pv 0)))) (w_one_or (t_not (t_val (d_all o rfl (Z_all kin gn c) (d_lc [("node", 3)] o (i_any o (d_var (pv 0))) (blk_of (by kernel_rfl)) (fun _ _ _ _ _ => g_name o.blk.nd) (fun _ _ _ _ _ => c_nil) (fun _ _ _ _ _ => d_in o.blk (d_var (pv 3)) (d_var (pv 2))))))))))) (b_one (s_ret (d_bl))) (b_nil)) (b_one (s_ret (d_all o rfl (Z_all kin gn c) (d_lc [("node", 3)] o (i_any o (d_var (pv 0))) (blk_of (by kernel_rfl)) (fun _ _ _ _ _ => g_name o.blk.nd) (fun _ _ _ _ _ => c_nil) (fun _ _ _ _ _ => d_callF ok_is_place o.blk (G_is_place kin gn c) (a_cons (d_var (pv 0)) (a_cons (d_var (pv 1)) (a_cons (d_var (pv 3)) (a_cons (d_idx o.blk (d_var (pv 2)) (d_var (pv 3))) (a_nil))))))))))
theorem ok_nodes_of : Fu g P w mg base 3 "nodes_of" "nodes_of" (top 18) ["tables"] (f_nodes_of T) (He.ga g.K "nodes_of") := by
  have ok_are_names := ok_are_names (P := P) (w := w) (base := base) kin gn c hcl sy isc gt ok__law_take
  refine fu_of (N := ["tables", "pair"]) sy (c.def_ 5 (d := ⟨("nodes_of", none), "nodes_of", "nodes_of", defArgs (top 18), defBody (top 18), defScope (top 18), [], []⟩) rfl) ⟨rfl, rfl, rfl, by decide +kernel, rfl, by decide +kernel, by decide +kernel⟩ (fun _ _ _ _ _ _ us hl => match us, hl with | [_], _ => rfl) fun cdv A outer s H o => ?_
  exact b_cons (s_set o.nd (d_idx o (d_var (pv 0)) (d_minF o rfl (Z_min kin gn c) (d_var (pv 0))))) (b_cons (s_if (DW.t (w_or (t_not (t_val (d_isi o rfl (Z_isinstance kin gn c) rfl (Z_tuple kin gn c) (d_var (pv 1))))) (w_or (t_ne o (d_len' o rfl (Z_len kin gn c) (d_var (pv 1))) (d_int)) (w_one_or (t_not (t_val (d_callF ok_are_names o (G_are_names kin gn c) (a_cons (d_idx o (d_var (pv 1)) (d_int)) (a_cons (d_gint rfl (V_MOST_NODES kin gn c).choose_spec) (a_nil)))))))))) (b_one (s_ret (d_non))) (b_nil)) (b_one (s_ret (d_sorted2 o rfl (Z_sorted kin gn c) (d_idx o (d_var (pv 1)) (d_int))))))
theorem ok_are_tables : Fu g P w mg base 4 "are_tables" "are_tables" (top 19) ["thing"] (f_are_tables T) (He.ga g.K "are_tables") := by
  have ok_are_names := ok_are_names (P := P) (w := w) (base := base) kin gn c hcl sy isc gt ok__law_take
  have ok_is_table := ok_is_table (P := P) (w := w) (base := base) kin gn c hcl sy isc gt ok__law_take
  have ok_nodes_of := ok_nodes_of (P := P) (w := w) (base := base) kin gn c hcl sy isc gt ok__law_take
  refine fu_of (N := ["thing", "nodes", "goal", "pair", "node"]) sy (c.def_ 6 (d := ⟨("are_tables", none), "are_tables", "are_tables", defArgs (top 19), defBody (top 19), defScope (top 19), [], []⟩) rfl) ⟨rfl, rfl, rfl, by decide +kernel, rfl, by decide +kernel, by decide +kernel⟩ (fun _ _ _ _ _ _ us hl => match us, hl with | [_], _ => rfl) fun cdv A outer s H o => ?_
  exact b_cons (s_if (t_not (t_val (d_callF ok_are_names o (G_are_names kin gn c) (a_cons (d_var (pv 0)) (a_cons (d_gint rfl (V_MOST_GOALS kin gn c).choose_spec) (a_nil)))))) (b_one (s_ret (d_bl))) (b_nil)) (b_cons (s_set o.nd (d_callF ok_nodes_of o (G_nodes_of kin gn c) (a_cons (d_var (pv 0)) (a_nil)))) (b_cons (s_if (DW.t (w_or (t_isN (d_var (pv 1))) (w_one_or (t_val (d_any o rfl (Z_any kin gn c) (d_lc [("node", 4)] o (i_any o (d_var (pv 1))) (blk_of (by kernel_rfl)) (fun _ _ _ _ _ => g_name o.blk.nd) (fun _ _ _ _ _ => c_nil) (fun _ _ _ _ _ => d_in o.blk (d_var (pv 4)) (d_var (pv 0))))))))) (b_one (s_ret (d_bl))) (b_nil)) (b_cons (s_for .never rfl (i_any o (d_var (pv 0))) (g_name o.nd) (b_cons (s_set o.nd (d_idx o (d_var (pv 0)) (d_var (pv 2)))) (b_cons (s_if (DW.t (w_or (t_not (t_val (d_isi o rfl (Z_isinstance kin gn c) rfl (Z_tuple kin gn c) (d_var (pv 3))))) (w_one_or (t_ne o (d_len' o rfl (Z_len kin gn c) (d_var (pv 3))) (d_int))))) (b_one (s_ret (d_bl))) (b_nil)) (b_one (s_if (DW.t (w_or (t_not (t_val (d_callF ok_is_table o (G_is_table kin gn c) (a_cons (d_var (pv 1)) (a_cons (d_var (pv 2)) (a_cons (d_idx o (d_var (pv 3)) (d_int)) (a_nil))))))) (w_one_or (t_not (t_val (d_callF ok_is_table o (G_is_table kin gn c) (a_cons (d_var (pv 1)) (a_cons (d_var (pv 2)) (a_cons (d_idx o (d_var (pv 3)) (d_int)) (a_nil)))))))))) (b_one (s_ret (d_bl))) (b_nil)))))) (b_one (s_ret (d_bl))))))
theorem ok_ordered : Fu g P w mg base 1 "ordered" "ordered" (top 21) ["table"] (f_ordered T) (He.ga g.K "ordered") := by
  refine fu_of (N := ["table", "key"]) sy (c.def_ 8 (d := ⟨("ordered", none), "ordered", "ordered", defArgs (top 21), defBody (top 21), defScope (top 21), [], []⟩) rfl) ⟨rfl, rfl, rfl, by decide +kernel, rfl, by decide +kernel, by decide +kernel⟩ (fun _ _ _ _ _ _ us hl => match us, hl with | [_], _ => rfl) fun cdv A outer s H o => ?_
  exact b_one (s_ret (d_dc [("key", 1)] o (i_any o (d_sorted2 o rfl (Z_sorted kin gn c) (d_var (pv 0)))) (blk_of (by kernel_rfl)) (fun _ _ _ _ _ => g_name o.blk.nd) (fun _ _ _ _ _ => c_nil) (fun _ _ _ _ _ => d_var (pv 1)) (fun _ _ _ _ _ => d_idx o.blk (d_var (pv 0)) (d_var (pv 1)))))
theorem ok_Net___init__ : FuI g P w mg base 5 ["self", "tables", "sources", "posts"] 0 (i_Net___init__ T) (He.ma g.K (He.ga g.K "Net") "__init__") := by
  have ok_Net_does_change := ok_Net_does_change (P := P) (w := w) (base := base) kin gn c hcl sy isc gt ok__law_take
  have ok_are_nodes := ok_are_nodes (P := P) (w := w) (base := base) kin gn c hcl sy isc gt ok__law_take
  have ok_are_tables := ok_are_tables (P := P) (w := w) (base := base) kin gn c hcl sy isc gt ok__law_take
  have ok_nodes_of := ok_nodes_of (P := P) (w := w) (base := base) kin gn c hcl sy isc gt ok__law_take
  have ok_ordered := ok_ordered (P := P) (w := w) (base := base) kin gn c hcl sy isc gt ok__law_take
  refine fui_of (N := ["self", "tables", "sources", "posts", "nodes", "goal", "node"]) (n := 3) sy (c.def_ 9 (d := ⟨("Net", some "__init__"), "__init__", "Net.__init__", defArgs (inClass (top 22) 0), defBody (inClass (top 22) 0), defScope (inClass (top 22) 0), [.adr (He.dflAt ("Net", some "__init__") 0), .adr (He.dflAt ("Net", some "__init__") 1)], []⟩) rfl) ⟨rfl, rfl, rfl, by decide +kernel, rfl, by decide +kernel, by decide +kernel⟩ (fun fd F => by obtain ⟨ds, v, b⟩ := F.binds1 (ps := ["self", "tables", "sources", "posts"]) 4 2 (fun z => nomatch z) rfl (fun T kV doc pm an cdv ct us its h1 h2 => match us, its, h1, h2 with | [_, _, _, _], [_, _], _, _ => ⟨_, rfl, rfl⟩); cases v; exact b) rfl (by decide) fun cdv A outer s H o => ?_
  exact bx_cons (sx_if (t_not (t_val (d_callF ok_are_tables o (G_are_tables kin gn c) (a_cons (d_var (pv 1)) (a_nil))))) (bx_cons (sx_no) (bx_nil)) (bx_nil)) (bx_cons (sx_set o.nd (d_callF ok_nodes_of o (G_nodes_of kin gn c) (a_cons (d_var (pv 1)) (a_nil)))) (bx_cons (sx_if (t_not (t_val (d_callF ok_are_nodes o (G_are_nodes kin gn c) (a_cons (d_var (pv 4)) (a_cons (d_var (pv 2)) (a_nil)))))) (bx_cons (sx_no) (bx_nil)) (bx_nil)) (bx_cons (sx_if (DW.t (w_or (t_not (t_val (d_callF ok_are_nodes o (G_are_nodes kin gn c) (a_cons (d_var (pv 4)) (a_cons (d_var (pv 3)) (a_nil)))))) (w_one_or (t_gtD (d_len' o rfl (Z_len kin gn c) (d_var (pv 3))) (d_gint rfl (V_MOST_POSTS kin gn c).choose_spec))))) (bx_cons (sx_no) (bx_nil)) (bx_nil)) (bx_cons (sx_fld (Cl_0 c hcl) (Na_0_own_tables c hcl) (ps_fld (pv 0) (d_dc [("goal", 5)] o (i_any o (d_sortG o rfl (Z_sorted kin gn c) (d_var (pv 1)))) (blk_of (by kernel_rfl)) (fun _ _ _ _ _ => g_name o.blk.nd) (fun _ _ _ _ _ => c_nil) (fun _ _ _ _ _ => d_var (pv 5)) (fun _ _ _ _ _ => d_tup (a_cons (d_callF ok_ordered o.blk (G_ordered kin gn c) (a_cons (d_idx o.blk (d_idx o.blk (d_var (pv 1)) (d_var (pv 5))) (d_int)) (a_nil))) (a_cons (d_callF ok_ordered o.blk (G_ordered kin gn c) (a_cons (d_idx o.blk (d_idx o.blk (d_var (pv 1)) (d_var (pv 5))) (d_int)) (a_nil))) (a_nil))))) rfl)) (bx_cons (sx_fld (Cl_0 c hcl) (Na_0_own_goals c hcl) (ps_fld (pv 0) (d_tup1 o rfl (Z_tuple kin gn c) (d_fld 0 (Cl_0 c hcl) (Na_0_own_tables c hcl) (d_var (pv 0)))) rfl)) (bx_cons (sx_fld (Cl_0 c hcl) (Na_0_own_nodes c hcl) (ps_fld (pv 0) (d_tup1 o rfl (Z_tuple kin gn c) (d_var (pv 4))) rfl)) (bx_cons (sx_fld (Cl_0 c hcl) (Na_0_own_sources c hcl) (ps_fld (pv 0) (d_tup1 o rfl (Z_tuple kin gn c) (d_sortG o rfl (Z_sorted kin gn c) (d_var (pv 2)))) rfl)) (bx_cons (sx_fld (Cl_0 c hcl) (Na_0_own_posts c hcl) (ps_fld (pv 0) (d_tup1 o rfl (Z_tuple kin gn c) (d_var (pv 3))) rfl)) (bx_cons (sx_fld (Cl_0 c hcl) (Na_0_own_changing c hcl) (ps_fld (pv 0) (d_tup1 o rfl (Z_tuple kin gn c) (d_lc [("node", 6)] o (i_any o (d_var (pv 4))) (blk_of (by kernel_rfl)) (fun _ _ _ _ _ => g_name o.blk.nd) (fun _ _ _ _ _ => c_one (t_val (d_meth ok_Net_does_change o.blk (Cl_0 c hcl) (Me_0_does_change c hcl) (d_var (pv 0)) (a_cons (d_var (pv 6)) (a_nil))))) (fun _ _ _ _ _ => d_var (pv 6)))) rfl)) (bx_nil))))))))))
theorem ok_Net___init___d1 : FuIE g P w mg base 5 ["self", "tables", "sources", "posts"] 0 [.tup []] (i_Net___init__ T) (He.ma g.K (He.ga g.K "Net") "__init__") := by
  have ok_Net_does_change := ok_Net_does_change (P := P) (w := w) (base := base) kin gn c hcl sy isc gt ok__law_take
  have ok_are_nodes := ok_are_nodes (P := P) (w := w) (base := base) kin gn c hcl sy isc gt ok__law_take
  have ok_are_tables := ok_are_tables (P := P) (w := w) (base := base) kin gn c hcl sy isc gt ok__law_take
  have ok_nodes_of := ok_nodes_of (P := P) (w := w) (base := base) kin gn c hcl sy isc gt ok__law_take
  have ok_ordered := ok_ordered (P := P) (w := w) (base := base) kin gn c hcl sy isc gt ok__law_take
  refine fuie_of (N := ["self", "tables", "sources", "posts", "nodes", "goal", "node"]) (n := 2) (dd := [.tup []]) sy (c.def_ 9 (d := ⟨("Net", some "__init__"), "__init__", "Net.__init__", defArgs (inClass (top 22) 0), defBody (inClass (top 22) 0), defScope (inClass (top 22) 0), [.adr (He.dflAt ("Net", some "__init__") 0), .adr (He.dflAt ("Net", some "__init__") 1)], []⟩) rfl) ⟨rfl, rfl, rfl, by decide +kernel, rfl, by decide +kernel, by decide +kernel⟩ (fun fd F => F.binds1 (ps := ["self", "tables", "sources", "posts"]) 3 1 (fun z => nomatch z) rfl (fun T kV doc pm an cdv ct us its h1 h2 => match us, its, h1, h2 with | [_, _, _], [_, _], _, _ => ⟨_, rfl, rfl⟩)) (fun F => .cons (.kt (Df_Net___init___1 c isc) .nil (by rw [hn1 hcl]; rfl)) (.nil)) rfl (by decide) fun cdv A outer s H o => ?_
  exact bx_cons (sx_if (t_not (t_val (d_callF ok_are_tables o (G_are_tables kin gn c) (a_cons (d_var (pv 1)) (a_nil))))) (bx_cons (sx_no) (bx_nil)) (bx_nil)) (bx_cons (sx_set o.nd (d_callF ok_nodes_of o (G_nodes_of kin gn c) (a_cons (d_var (pv 1)) (a_nil)))) (bx_cons (sx_if (t_not (t_val (d_callF ok_are_nodes o (G_are_nodes kin gn c) (a_cons (d_var (pv 4)) (a_cons (d_var (pv 2)) (a_nil)))))) (bx_cons (sx_no) (bx_nil)) (bx_nil)) (bx_cons (sx_if (DW.t (w_or (t_not (t_val (d_callF ok_are_nodes o (G_are_nodes kin gn c) (a_cons (d_var (pv 4)) (a_cons (d_var (pv 3)) (a_nil)))))) (w_one_or (t_gtD (d_len' o rfl (Z_len kin gn c) (d_var (pv 3))) (d_gint rfl (V_MOST_POSTS kin gn c).choose_spec))))) (bx_cons (sx_no) (bx_nil)) (bx_nil)) (bx_cons (sx_fld (Cl_0 c hcl) (Na_0_own_tables c hcl) (ps_fld (pv 0) (d_dc [("goal", 5)] o (i_any o (d_sortG o rfl (Z_sorted kin gn c) (d_var (pv 1)))) (blk_of (by kernel_rfl)) (fun _ _ _ _ _ => g_name o.blk.nd) (fun _ _ _ _ _ => c_nil) (fun _ _ _ _ _ => d_var (pv 5)) (fun _ _ _ _ _ => d_tup (a_cons (d_callF ok_ordered o.blk (G_ordered kin gn c) (a_cons (d_idx o.blk (d_idx o.blk (d_var (pv 1)) (d_var (pv 5))) (d_int)) (a_nil))) (a_cons (d_callF ok_ordered o.blk (G_ordered kin gn c) (a_cons (d_idx o.blk (d_idx o.blk (d_var (pv 1)) (d_var (pv 5))) (d_int)) (a_nil))) (a_nil))))) rfl)) (bx_cons (sx_fld (Cl_0 c hcl) (Na_0_own_goals c hcl) (ps_fld (pv 0) (d_tup1 o rfl (Z_tuple kin gn c) (d_fld 0 (Cl_0 c hcl) (Na_0_own_tables c hcl) (d_var (pv 0)))) rfl)) (bx_cons (sx_fld (Cl_0 c hcl) (Na_0_own_nodes c hcl) (ps_fld (pv 0) (d_tup1 o rfl (Z_tuple kin gn c) (d_var (pv 4))) rfl)) (bx_cons (sx_fld (Cl_0 c hcl) (Na_0_own_sources c hcl) (ps_fld (pv 0) (d_tup1 o rfl (Z_tuple kin gn c) (d_sortG o rfl (Z_sorted kin gn c) (d_var (pv 2)))) rfl)) (bx_cons (sx_fld (Cl_0 c hcl) (Na_0_own_posts c hcl) (ps_fld (pv 0) (d_tup1 o rfl (Z_tuple kin gn c) (d_var (pv 3))) rfl)) (bx_cons (sx_fld (Cl_0 c hcl) (Na_0_own_changing c hcl) (ps_fld (pv 0) (d_tup1 o rfl (Z_tuple kin gn c) (d_lc [("node", 6)] o (i_any o (d_var (pv 4))) (blk_of (by kernel_rfl)) (fun _ _ _ _ _ => g_name o.blk.nd) (fun _ _ _ _ _ => c_one (t_val (d_meth ok_Net_does_change o.blk (Cl_0 c hcl) (Me_0_does_change c hcl) (d_var (pv 0)) (a_cons (d_var (pv 6)) (a_nil))))) (fun _ _ _ _ _ => d_var (pv 6)))) rfl)) (bx_nil))))))))))
theorem ok_Net___init___d2 : FuIE g P w mg base 5 ["self", "tables", "sources", "posts"] 0 [.tup [], .tup []] (i_Net___init__ T) (He.ma g.K (He.ga g.K "Net") "__init__") := by
  have ok_Net_does_change := ok_Net_does_change (P := P) (w := w) (base := base) kin gn c hcl sy isc gt ok__law_take
  have ok_are_nodes := ok_are_nodes (P := P) (w := w) (base := base) kin gn c hcl sy isc gt ok__law_take
  have ok_are_tables := ok_are_tables (P := P) (w := w) (base := base) kin gn c hcl sy isc gt ok__law_take
  have ok_nodes_of := ok_nodes_of (P := P) (w := w) (base := base) kin gn c hcl sy isc gt ok__law_take
  have ok_ordered := ok_ordered (P := P) (w := w) (base := base) kin gn c hcl sy isc gt ok__law_take
  refine fuie_of (N := ["self", "tables", "sources", "posts", "nodes", "goal", "node"]) (n := 1) (dd := [.tup [], .tup []]) sy (c.def_ 9 (d := ⟨("Net", some "__init__"), "__init__", "Net.__init__", defArgs (inClass (top 22) 0), defBody (inClass (top 22) 0), defScope (inClass (top 22) 0), [.adr (He.dflAt ("Net", some "__init__") 0), .adr (He.dflAt ("Net", some "__init__") 1)], []⟩) rfl) ⟨rfl, rfl, rfl, by decide +kernel, rfl, by decide +kernel, by decide +kernel⟩ (fun fd F => F.binds1 (ps := ["self", "tables", "sources", "posts"]) 2 0 (fun z => nomatch z) rfl (fun T kV doc pm an cdv ct us its h1 h2 => match us, its, h1, h2 with | [_, _], [_, _], _, _ => ⟨_, rfl, rfl⟩)) (fun F => .cons (.kt (Df_Net___init___0 c isc) .nil (by rw [hn1 hcl]; rfl)) (.cons (.kt (Df_Net___init___1 c isc) .nil (by rw [hn1 hcl]; rfl)) (.nil))) rfl (by decide) fun cdv A outer s H o => ?_
  exact bx_cons (sx_if (t_not (t_val (d_callF ok_are_tables o (G_are_tables kin gn c) (a_cons (d_var (pv 1)) (a_nil))))) (bx_cons (sx_no) (bx_nil)) (bx_nil)) (bx_cons (sx_set o.nd (d_callF ok_nodes_of o (G_nodes_of kin gn c) (a_cons (d_var (pv 1)) (a_nil)))) (bx_cons (sx_if (t_not (t_val (d_callF ok_are_nodes o (G_are_nodes kin gn c) (a_cons (d_var (pv 4)) (a_cons (d_var (pv 2)) (a_nil)))))) (bx_cons (sx_no) (bx_nil)) (bx_nil)) (bx_cons (sx_if (DW.t (w_or (t_not (t_val (d_callF ok_are_nodes o (G_are_nodes kin gn c) (a_cons (d_var (pv 4)) (a_cons (d_var (pv 3)) (a_nil)))))) (w_one_or (t_gtD (d_len' o rfl (Z_len kin gn c) (d_var (pv 3))) (d_gint rfl (V_MOST_POSTS kin gn c).choose_spec))))) (bx_cons (sx_no) (bx_nil)) (bx_nil)) (bx_cons (sx_fld (Cl_0 c hcl) (Na_0_own_tables c hcl) (ps_fld (pv 0) (d_dc [("goal", 5)] o (i_any o (d_sortG o rfl (Z_sorted kin gn c) (d_var (pv 1)))) (blk_of (by kernel_rfl)) (fun _ _ _ _ _ => g_name o.blk.nd) (fun _ _ _ _ _ => c_nil) (fun _ _ _ _ _ => d_var (pv 5)) (fun _ _ _ _ _ => d_tup (a_cons (d_callF ok_ordered o.blk (G_ordered kin gn c) (a_cons (d_idx o.blk (d_idx o.blk (d_var (pv 1)) (d_var (pv 5))) (d_int)) (a_nil))) (a_cons (d_callF ok_ordered o.blk (G_ordered kin gn c) (a_cons (d_idx o.blk (d_idx o.blk (d_var (pv 1)) (d_var (pv 5))) (d_int)) (a_nil))) (a_nil))))) rfl)) (bx_cons (sx_fld (Cl_0 c hcl) (Na_0_own_goals c hcl) (ps_fld (pv 0) (d_tup1 o rfl (Z_tuple kin gn c) (d_fld 0 (Cl_0 c hcl) (Na_0_own_tables c hcl) (d_var (pv 0)))) rfl)) (bx_cons (sx_fld (Cl_0 c hcl) (Na_0_own_nodes c hcl) (ps_fld (pv 0) (d_tup1 o rfl (Z_tuple kin gn c) (d_var (pv 4))) rfl)) (bx_cons (sx_fld (Cl_0 c hcl) (Na_0_own_sources c hcl) (ps_fld (pv 0) (d_tup1 o rfl (Z_tuple kin gn c) (d_sortG o rfl (Z_sorted kin gn c) (d_var (pv 2)))) rfl)) (bx_cons (sx_fld (Cl_0 c hcl) (Na_0_own_posts c hcl) (ps_fld (pv 0) (d_tup1 o rfl (Z_tuple kin gn c) (d_var (pv 3))) rfl)) (bx_cons (sx_fld (Cl_0 c hcl) (Na_0_own_changing c hcl) (ps_fld (pv 0) (d_tup1 o rfl (Z_tuple kin gn c) (d_lc [("node", 6)] o (i_any o (d_var (pv 4))) (blk_of (by kernel_rfl)) (fun _ _ _ _ _ => g_name o.blk.nd) (fun _ _ _ _ _ => c_one (t_val (d_meth ok_Net_does_change o.blk (Cl_0 c hcl) (Me_0_does_change c hcl) (d_var (pv 0)) (a_cons (d_var (pv 6)) (a_nil))))) (fun _ _ _ _ _ => d_var (pv 6)))) rfl)) (bx_nil))))))))))
theorem ok_Net_changing : Fu g P w mg base 1 "changing" "Net.changing" (inClass (top 22) 7) ["self"] (f_Net_changing T) (gAd g.K "Net" "changing") := by
  refine fu_of (N := ["self"]) sy (gt.get 0 (q := ⟨"Net", "changing", "changing", "Net.changing", inClass (top 22) 7⟩) rfl) ⟨rfl, rfl, rfl, by decide +kernel, rfl, by decide +kernel, by decide +kernel⟩ (fun _ _ _ _ _ _ us hl => match us, hl with | [_], _ => rfl) fun cdv A outer s H o => ?_
  exact b_one (s_ret (d_fld 0 (Cl_0 c hcl) (Na_0_own_changing c hcl) (d_var (pv 0))))
theorem ok_depths_by : Fu g P w mg base 1 "depths_by" "depths_by" (top 26) ["table", "goal"] (f_depths_by T) (He.ga g.K "depths_by") := by
  refine fu_of (N := ["table", "goal", "found", "node", "place", "many"]) sy (c.def_ 17 (d := ⟨("depths_by", none), "depths_by", "depths_by", defArgs (top 26), defBody (top 26), defScope (top 26), [], []⟩) rfl) ⟨rfl, rfl, rfl, by decide +kernel, rfl, by decide +kernel, by decide +kernel⟩ (fun _ _ _ _ _ _ us hl => match us, hl with | [_, _], _ => rfl) fun cdv A outer s H o => ?_
  exact b_cons (s_set o.nd (d_dct0)) (b_cons (s_for .never rfl (i_any o (d_var (pv 0))) (g_name o.nd) (b_cons (s_par2' rfl o.nd (h_cons (d_var (pv 3)) (h_cons (d_int) (h_nil)))) (b_cons (s_while .never (DW.t (w_and (t_in o (d_var (pv 4)) (d_var (pv 0))) (w_one_and (t_le (d_var (pv 5)) (d_len' o rfl (Z_len kin gn c) (d_var (pv 0))))))) (b_one (s_par2' rfl o.nd (h_cons (d_idx o (d_var (pv 0)) (d_var (pv 4))) (h_cons (d_add o (d_var (pv 5)) (d_int)) (h_nil)))))) (b_one (s_put o (pv 2) (d_var (pv 3)) (d_if (t_eq o (d_var (pv 4)) (d_var (pv 1))) (d_var (pv 5)) (d_non)) (pg_sub (pv 2) (d_var (pv 3)) (PSet.or set_list (set_dict o.hu)))))))) (b_one (s_ret (d_var (pv 2)))))
theorem ok_need_goal : Fu g P w mg base 1 "need_goal" "need_goal" (top 24) ["net", "goal"] (f_need_goal T) (He.ga g.K "need_goal") := by
  refine fu_of (N := ["net", "goal"]) sy (c.def_ 15 (d := ⟨("need_goal", none), "need_goal", "need_goal", defArgs (top 24), defBody (top 24), defScope (top 24), [], []⟩) rfl) ⟨rfl, rfl, rfl, by decide +kernel, rfl, by decide +kernel, by decide +kernel⟩ (fun _ _ _ _ _ _ us hl => match us, hl with | [_, _], _ => rfl) fun cdv A outer s H o => ?_
  exact b_one (s_if (DW.t (w_or (t_not (t_val (d_isi o rfl (Z_isinstance kin gn c) rfl (Z_str kin gn c) (d_var (pv 1))))) (w_one_or (t_nin o (d_var (pv 1)) (d_fld 0 (Cl_0 c hcl) (Na_0_own_goals c hcl) (d_var (pv 0))))))) (b_one (s_no)) (b_nil))
theorem ok_need_net : Fu g P w mg base 1 "need_net" "need_net" (top 23) ["net"] (f_need_net T) (He.ga g.K "need_net") := by
  refine fu_of (N := ["net"]) sy (c.def_ 14 (d := ⟨("need_net", none), "need_net", "need_net", defArgs (top 23), defBody (top 23), defScope (top 23), [], []⟩) rfl) ⟨rfl, rfl, rfl, by decide +kernel, rfl, by decide +kernel, by decide +kernel⟩ (fun _ _ _ _ _ _ us hl => match us, hl with | [_], _ => rfl) fun cdv A outer s H o => ?_
  exact b_one (s_if (t_not (t_val (d_isiC 0 o rfl (Z_isinstance kin gn c) rfl (GC_0 kin gn c hcl) (isc_0 c hcl isc) (d_var (pv 0))))) (b_one (s_no)) (b_nil))
theorem ok_depths : Fu g P w mg base 2 "depths" "depths" (top 27) ["net", "goal", "is_new"] (f_depths T) (He.ga g.K "depths") := by
  have ok_depths_by := ok_depths_by (P := P) (w := w) (base := base) kin gn c hcl sy isc gt ok__law_take
  have ok_need_goal := ok_need_goal (P := P) (w := w) (base := base) kin gn c hcl sy isc gt ok__law_take
  have ok_need_net := ok_need_net (P := P) (w := w) (base := base) kin gn c hcl sy isc gt ok__law_take
  refine fu_of (N := ["net", "goal", "is_new"]) sy (c.def_ 18 (d := ⟨("depths", none), "depths", "depths", defArgs (top 27), defBody (top 27), defScope (top 27), [], []⟩) rfl) ⟨rfl, rfl, rfl, by decide +kernel, rfl, by decide +kernel, by decide +kernel⟩ (fun _ _ _ _ _ _ us hl => match us, hl with | [_, _, _], _ => rfl) fun cdv A outer s H o => ?_
  exact b_cons (s_expr (d_callF ok_need_net o (G_need_net kin gn c) (a_cons (d_var (pv 0)) (a_nil)))) (b_cons (s_expr (d_callF ok_need_goal o (G_need_goal kin gn c) (a_cons (d_var (pv 0)) (a_cons (d_var (pv 1)) (a_nil))))) (b_one (s_ret (d_callF ok_depths_by o (G_depths_by kin gn c) (a_cons (d_idx o (d_idx o (d_fld 0 (Cl_0 c hcl) (Na_0_own_tables c hcl) (d_var (pv 0))) (d_var (pv 1))) (d_if (t_val (d_var (pv 2))) (d_int) (d_int))) (a_cons (d_var (pv 1)) (a_nil)))))))
theorem ok_is_lot : Fu g P w mg base 1 "is_lot" "is_lot" (top 30) ["net", "thing"] (f_is_lot T) (He.ga g.K "is_lot") := by
  refine fu_of (N := ["net", "thing", "one", "other", "node"]) sy (c.def_ 20 (d := ⟨("is_lot", none), "is_lot", "is_lot", defArgs (top 30), defBody (top 30), defScope (top 30), [], []⟩) rfl) ⟨rfl, rfl, rfl, by decide +kernel, rfl, by decide +kernel, by decide +kernel⟩ (fun _ _ _ _ _ _ us hl => match us, hl with | [_, _], _ => rfl) fun cdv A outer s H o => ?_
  exact b_cons (s_if (DW.t (w_or (t_not (t_val (d_isi o rfl (Z_isinstance kin gn c) rfl (Z_tuple kin gn c) (d_var (pv 1))))) (w_one_or (t_not (t_val (d_all o rfl (Z_all kin gn c) (d_lc [("node", 4)] o (i_any o (d_var (pv 1))) (blk_of (by kernel_rfl)) (fun _ _ _ _ _ => g_name o.blk.nd) (fun _ _ _ _ _ => c_nil) (fun _ _ _ _ _ => d_and (d_isi o.blk rfl (Z_isinstance kin gn c) rfl (Z_str kin gn c) (d_var (pv 4))) (d_one (d_in o.blk (d_var (pv 4)) (d_fld 0 (Cl_0 c hcl) (Na_0_own_changing c hcl) (d_var (pv 0))))))))))))) (b_one (s_ret (d_bl))) (b_nil)) (b_one (s_ret (d_all o rfl (Z_all kin gn c) (d_lc [("one", 2), ("other", 3)] o (i_zip o rfl (Z_zip kin gn c) (a_cons (d_var (pv 1)) (a_cons (d_slice o (d_var (pv 1)) (o_some (d_int)) (o_none)) (a_nil)))) (blk_of (by kernel_rfl)) (fun _ _ _ _ _ => g_tup o.blk (ts_cons (g_name o.blk.nd) (ts_cons (g_name o.blk.nd) (ts_nil)))) (fun _ _ _ _ _ => c_nil) (fun _ _ _ _ _ => d_lt (d_var (pv 2)) (d_var (pv 3)))))))
theorem ok_led_by : Fu g P w mg base 1 "led_by" "led_by" (top 42) ["table", "node"] (f_led_by T) (He.ga g.K "led_by") := by
  refine fu_of (N := ["table", "node", "found"]) sy (c.def_ 32 (d := ⟨("led_by", none), "led_by", "led_by", defArgs (top 42), defBody (top 42), defScope (top 42), [], []⟩) rfl) ⟨rfl, rfl, rfl, by decide +kernel, rfl, by decide +kernel, by decide +kernel⟩ (fun _ _ _ _ _ _ us hl => match us, hl with | [_, _], _ => rfl) fun cdv A outer s H o => ?_
  exact b_cons (s_set o.nd (d_lst (a_cons (d_var (pv 1)) (a_nil)))) (b_cons (s_while .never (DW.t (w_and (t_in o (d_idx o (d_var (pv 2)) (d_neg (d_int))) (d_var (pv 0))) (w_one_and (t_nin o (d_idx o (d_var (pv 2)) (d_neg (d_int))) (d_slice o (d_var (pv 2)) (o_none) (o_some (d_neg (d_int)))))))) (b_one (s_expr (d_mL m_app (pe_bm PySem.F.plainAttrs_list PySem.F.slot_list_append PySem.F.type_list_append mt_append (pv 2) (a_cons (d_idx o (d_var (pv 0)) (d_idx o (d_var (pv 2)) (d_neg (d_int)))) (a_nil))))))) (b_one (s_ret (d_var (pv 2)))))
theorem ok_moment_ways : Fu g P w mg base 1 "moment_ways" "moment_ways" (top 34) ["net", "done", "changed", "goal"] (f_moment_ways T) (He.ga g.K "moment_ways") := by
  refine fu_of (N := ["net", "done", "changed", "goal", "old", "new", "node"]) sy (c.def_ 24 (d := ⟨("moment_ways", none), "moment_ways", "moment_ways", defArgs (top 34), defBody (top 34), defScope (top 34), [], []⟩) rfl) ⟨rfl, rfl, rfl, by decide +kernel, rfl, by decide +kernel, by decide +kernel⟩ (fun _ _ _ _ _ _ us hl => match us, hl with | [_, _, _, _], _ => rfl) fun cdv A outer s H o => ?_
  exact b_cons (s_unp (d_idx o (d_fld 0 (Cl_0 c hcl) (Na_0_own_tables c hcl) (d_var (pv 0))) (d_var (pv 3))) (g_tup o (ts_cons (g_name o.nd) (ts_cons (g_name o.nd) (ts_nil))))) (b_one (s_ret (d_dc [("node", 6)] o (i_any o (d_fld 0 (Cl_0 c hcl) (Na_0_own_nodes c hcl) (d_var (pv 0)))) (blk_of (by kernel_rfl)) (fun _ _ _ _ _ => g_name o.blk.nd) (fun _ _ _ _ _ => c_nil) (fun _ _ _ _ _ => d_var (pv 6)) (fun _ _ _ _ _ => d_if (DW.t (w_or (t_in o.blk (d_var (pv 6)) (d_var (pv 1))) (w_one_or (t_in o.blk (d_var (pv 6)) (d_var (pv 2)))))) (d_idx o.blk (d_var (pv 5)) (d_var (pv 6))) (d_idx o.blk (d_var (pv 4)) (d_var (pv 6)))))))
theorem ok_need_done : Fu g P w mg base 2 "need_done" "need_done" (top 31) ["net", "done"] (f_need_done T) (He.ga g.K "need_done") := by
  have ok_is_lot := ok_is_lot (P := P) (w := w) (base := base) kin gn c hcl sy isc gt ok__law_take
  refine fu_of (N := ["net", "done"]) sy (c.def_ 21 (d := ⟨("need_done", none), "need_done", "need_done", defArgs (top 31), defBody (top 31), defScope (top 31), [], []⟩) rfl) ⟨rfl, rfl, rfl, by decide +kernel, rfl, by decide +kernel, by decide +kernel⟩ (fun _ _ _ _ _ _ us hl => match us, hl with | [_, _], _ => rfl) fun cdv A outer s H o => ?_
  exact b_one (s_if (t_not (t_val (d_callF ok_is_lot o (G_is_lot kin gn c) (a_cons (d_var (pv 0)) (a_cons (d_var (pv 1)) (a_nil)))))) (b_one (s_no)) (b_nil))
theorem ok_need_node : Fu g P w mg base 1 "need_node" "need_node" (top 25) ["net", "node"] (f_need_node T) (He.ga g.K "need_node") := by
  refine fu_of (N := ["net", "node"]) sy (c.def_ 16 (d := ⟨("need_node", none), "need_node", "need_node", defArgs (top 25), defBody (top 25), defScope (top 25), [], []⟩) rfl) ⟨rfl, rfl, rfl, by decide +kernel, rfl, by decide +kernel, by decide +kernel⟩ (fun _ _ _ _ _ _ us hl => match us, hl with | [_, _], _ => rfl) fun cdv A outer s H o => ?_
  exact b_one (s_if (DW.t (w_or (t_not (t_val (d_isi o rfl (Z_isinstance kin gn c) rfl (Z_str kin gn c) (d_var (pv 1))))) (w_one_or (t_nin o (d_var (pv 1)) (d_fld 0 (Cl_0 c hcl) (Na_0_own_nodes c hcl) (d_var (pv 0))))))) (b_one (s_no)) (b_nil))
theorem ok_led : Fu g P w mg base 3 "led" "led" (top 43) ["net", "done", "changed", "goal", "node"] (f_led T) (He.ga g.K "led") := by
  have ok_is_lot := ok_is_lot (P := P) (w := w) (base := base) kin gn c hcl sy isc gt ok__law_take
  have ok_led_by := ok_led_by (P := P) (w := w) (base := base) kin gn c hcl sy isc gt ok__law_take
  have ok_moment_ways := ok_moment_ways (P := P) (w := w) (base := base) kin gn c hcl sy isc gt ok__law_take
  have ok_need_done := ok_need_done (P := P) (w := w) (base := base) kin gn c hcl sy isc gt ok__law_take
  have ok_need_goal := ok_need_goal (P := P) (w := w) (base := base) kin gn c hcl sy isc gt ok__law_take
  have ok_need_net := ok_need_net (P := P) (w := w) (base := base) kin gn c hcl sy isc gt ok__law_take
  have ok_need_node := ok_need_node (P := P) (w := w) (base := base) kin gn c hcl sy isc gt ok__law_take
  refine fu_of (N := ["net", "done", "changed", "goal", "node", "one"]) sy (c.def_ 33 (d := ⟨("led", none), "led", "led", defArgs (top 43), defBody (top 43), defScope (top 43), [], []⟩) rfl) ⟨rfl, rfl, rfl, by decide +kernel, rfl, by decide +kernel, by decide +kernel⟩ (fun _ _ _ _ _ _ us hl => match us, hl with | [_, _, _, _, _], _ => rfl) fun cdv A outer s H o => ?_
  exact b_cons (s_expr (d_callF ok_need_net o (G_need_net kin gn c) (a_cons (d_var (pv 0)) (a_nil)))) (b_cons (s_expr (d_callF ok_need_done o (G_need_done kin gn c) (a_cons (d_var (pv 0)) (a_cons (d_var (pv 1)) (a_nil))))) (b_cons (s_if (DW.t (w_or (t_not (t_val (d_callF ok_is_lot o (G_is_lot kin gn c) (a_cons (d_var (pv 0)) (a_cons (d_var (pv 2)) (a_nil)))))) (w_one_or (t_val (d_any o rfl (Z_any kin gn c) (d_lc [("one", 5)] o (i_any o (d_var (pv 2))) (blk_of (by kernel_rfl)) (fun _ _ _ _ _ => g_name o.blk.nd) (fun _ _ _ _ _ => c_nil) (fun _ _ _ _ _ => d_in o.blk (d_var (pv 5)) (d_var (pv 1))))))))) (b_one (s_no)) (b_nil)) (b_cons (s_expr (d_callF ok_need_goal o (G_need_goal kin gn c) (a_cons (d_var (pv 0)) (a_cons (d_var (pv 3)) (a_nil))))) (b_cons (s_expr (d_callF ok_need_node o (G_need_node kin gn c) (a_cons (d_var (pv 0)) (a_cons (d_var (pv 4)) (a_nil))))) (b_one (s_ret (d_callF ok_led_by o (G_led_by kin gn c) (a_cons (d_callF ok_moment_ways o (G_moment_ways kin gn c) (a_cons (d_var (pv 0)) (a_cons (d_var (pv 1)) (a_cons (d_var (pv 2)) (a_cons (d_var (pv 3)) (a_nil)))))) (a_cons (d_var (pv 4)) (a_nil))))))))))
theorem ok_mixture : Fu g P w mg base 1 "mixture" "mixture" (top 33) ["net", "done", "lot", "goal"] (f_mixture T) (He.ga g.K "mixture") := by
  refine fu_of (N := ["net", "done", "lot", "goal", "old", "new", "found", "node"]) sy (c.def_ 23 (d := ⟨("mixture", none), "mixture", "mixture", defArgs (top 33), defBody (top 33), defScope (top 33), [], []⟩) rfl) ⟨rfl, rfl, rfl, by decide +kernel, rfl, by decide +kernel, by decide +kernel⟩ (fun _ _ _ _ _ _ us hl => match us, hl with | [_, _, _, _], _ => rfl) fun cdv A outer s H o => ?_
  exact b_cons (s_unp (d_idx o (d_fld 0 (Cl_0 c hcl) (Na_0_own_tables c hcl) (d_var (pv 0))) (d_var (pv 3))) (g_tup o (ts_cons (g_name o.nd) (ts_cons (g_name o.nd) (ts_nil))))) (b_cons (s_set o.nd (d_dct0)) (b_cons (s_for .never rfl (i_any o (d_fld 0 (Cl_0 c hcl) (Na_0_own_nodes c hcl) (d_var (pv 0)))) (g_name o.nd) (b_one (s_if (t_in o (d_var (pv 7)) (d_var (pv 1))) (b_one (s_put o (pv 6) (d_var (pv 7)) (d_lst (a_cons (d_idx o (d_var (pv 5)) (d_var (pv 7))) (a_nil))) (pg_sub (pv 6) (d_var (pv 7)) (PSet.or set_list (set_dict o.hu))))) (b_one (s_if (DW.t (w_and (t_in o (d_var (pv 7)) (d_var (pv 2))) (w_one_and (t_ne o (d_idx o (d_var (pv 5)) (d_var (pv 7))) (d_idx o (d_var (pv 4)) (d_var (pv 7))))))) (b_one (s_put o (pv 6) (d_var (pv 7)) (d_lst (a_cons (d_idx o (d_var (pv 4)) (d_var (pv 7))) (a_cons (d_idx o (d_var (pv 5)) (d_var (pv 7))) (a_nil)))) (pg_sub (pv 6) (d_var (pv 7)) (PSet.or set_list (set_dict o.hu))))) (b_one (s_put o (pv 6) (d_var (pv 7)) (d_lst (a_cons (d_idx o (d_var (pv 4)) (d_var (pv 7))) (a_nil))) (pg_sub (pv 6) (d_var (pv 7)) (PSet.or set_list (set_dict o.hu)))))))))) (b_one (s_ret (d_var (pv 6))))))
theorem ok_need_round : Fu g P w mg base 3 "need_round" "need_round" (top 32) ["net", "done", "lot"] (f_need_round T) (He.ga g.K "need_round") := by
  have ok_is_lot := ok_is_lot (P := P) (w := w) (base := base) kin gn c hcl sy isc gt ok__law_take
  have ok_need_done := ok_need_done (P := P) (w := w) (base := base) kin gn c hcl sy isc gt ok__law_take
  have ok_need_net := ok_need_net (P := P) (w := w) (base := base) kin gn c hcl sy isc gt ok__law_take
  refine fu_of (N := ["net", "done", "lot", "node"]) sy (c.def_ 22 (d := ⟨("need_round", none), "need_round", "need_round", defArgs (top 32), defBody (top 32), defScope (top 32), [], []⟩) rfl) ⟨rfl, rfl, rfl, by decide +kernel, rfl, by decide +kernel, by decide +kernel⟩ (fun _ _ _ _ _ _ us hl => match us, hl with | [_, _, _], _ => rfl) fun cdv A outer s H o => ?_
  exact b_cons (s_expr (d_callF ok_need_net o (G_need_net kin gn c) (a_cons (d_var (pv 0)) (a_nil)))) (b_cons (s_expr (d_callF ok_need_done o (G_need_done kin gn c) (a_cons (d_var (pv 0)) (a_cons (d_var (pv 1)) (a_nil))))) (b_one (s_if (DW.t (w_or (t_not (t_val (d_callF ok_is_lot o (G_is_lot kin gn c) (a_cons (d_var (pv 0)) (a_cons (d_var (pv 2)) (a_nil)))))) (w_one_or (t_val (d_any o rfl (Z_any kin gn c) (d_lc [("node", 3)] o (i_any o (d_var (pv 2))) (blk_of (by kernel_rfl)) (fun _ _ _ _ _ => g_name o.blk.nd) (fun _ _ _ _ _ => c_nil) (fun _ _ _ _ _ => d_in o.blk (d_var (pv 3)) (d_var (pv 1))))))))) (b_one (s_no)) (b_nil))))
theorem ok_next_nodes : Fu g P w mg base 1 "next_nodes" "next_nodes" (top 35) ["web", "node"] (f_next_nodes T) (He.ga g.K "next_nodes") := by
  refine fu_of (N := ["web", "node", "place"]) sy (c.def_ 25 (d := ⟨("next_nodes", none), "next_nodes", "next_nodes", defArgs (top 35), defBody (top 35), defScope (top 35), [], []⟩) rfl) ⟨rfl, rfl, rfl, by decide +kernel, rfl, by decide +kernel, by decide +kernel⟩ (fun _ _ _ _ _ _ us hl => match us, hl with | [_, _], _ => rfl) fun cdv A outer s H o => ?_
  exact b_one (s_ret (d_lc [("place", 2)] o (i_any o (d_idx o (d_var (pv 0)) (d_var (pv 1)))) (blk_of (by kernel_rfl)) (fun _ _ _ _ _ => g_name o.blk.nd) (fun _ _ _ _ _ => c_one (t_in o.blk (d_var (pv 2)) (d_var (pv 0)))) (fun _ _ _ _ _ => d_var (pv 2))))
theorem ok_reached_in : Fu g P w mg base 2 "reached_in" "reached_in" (top 48) ["web", "node"] (f_reached_in T) (He.ga g.K "reached_in") := by
  have ok_next_nodes := ok_next_nodes (P := P) (w := w) (base := base) kin gn c hcl sy isc gt ok__law_take
  refine fu_of (N := ["web", "node", "found", "at", "place"]) sy (c.def_ 38 (d := ⟨("reached_in", none), "reached_in", "reached_in", defArgs (top 48), defBody (top 48), defScope (top 48), [], []⟩) rfl) ⟨rfl, rfl, rfl, by decide +kernel, rfl, by decide +kernel, by decide +kernel⟩ (fun _ _ _ _ _ _ us hl => match us, hl with | [_, _], _ => rfl) fun cdv A outer s H o => ?_
  exact b_cons (s_par2' rfl o.nd (h_cons (d_lst (a_cons (d_var (pv 1)) (a_nil))) (h_cons (d_int) (h_nil)))) (b_cons (s_while .never (t_lt (d_var (pv 3)) (d_len' o rfl (Z_len kin gn c) (d_var (pv 2)))) (b_cons (s_for .never rfl (i_any o (d_callF ok_next_nodes o (G_next_nodes kin gn c) (a_cons (d_var (pv 0)) (a_cons (d_idx o (d_var (pv 2)) (d_var (pv 3))) (a_nil))))) (g_name o.nd) (b_one (s_if (t_nin o (d_var (pv 4)) (d_var (pv 2))) (b_one (s_expr (d_mL m_app (pe_bm PySem.F.plainAttrs_list PySem.F.slot_list_append PySem.F.type_list_append mt_append (pv 2) (a_cons (d_var (pv 4)) (a_nil)))))) (b_nil)))) (b_one (s_augI o.nd ip_add (d_int))))) (b_one (s_ret (d_var (pv 2)))))
theorem ok_reached : Fu g P w mg base 4 "reached" "reached" (top 49) ["net", "done", "lot", "goal", "node"] (f_reached T) (He.ga g.K "reached") := by
  have ok_mixture := ok_mixture (P := P) (w := w) (base := base) kin gn c hcl sy isc gt ok__law_take
  have ok_need_goal := ok_need_goal (P := P) (w := w) (base := base) kin gn c hcl sy isc gt ok__law_take
  have ok_need_node := ok_need_node (P := P) (w := w) (base := base) kin gn c hcl sy isc gt ok__law_take
  have ok_need_round := ok_need_round (P := P) (w := w) (base := base) kin gn c hcl sy isc gt ok__law_take
  have ok_reached_in := ok_reached_in (P := P) (w := w) (base := base) kin gn c hcl sy isc gt ok__law_take
  refine fu_of (N := ["net", "done", "lot", "goal", "node", "web", "nodes", "one"]) sy (c.def_ 39 (d := ⟨("reached", none), "reached", "reached", defArgs (top 49), defBody (top 49), defScope (top 49), [], []⟩) rfl) ⟨rfl, rfl, rfl, by decide +kernel, rfl, by decide +kernel, by decide +kernel⟩ (fun _ _ _ _ _ _ us hl => match us, hl with | [_, _, _, _, _], _ => rfl) fun cdv A outer s H o => ?_
  exact b_cons (s_expr (d_callF ok_need_round o (G_need_round kin gn c) (a_cons (d_var (pv 0)) (a_cons (d_var (pv 1)) (a_cons (d_var (pv 2)) (a_nil)))))) (b_cons (s_expr (d_callF ok_need_goal o (G_need_goal kin gn c) (a_cons (d_var (pv 0)) (a_cons (d_var (pv 3)) (a_nil))))) (b_cons (s_expr (d_callF ok_need_node o (G_need_node kin gn c) (a_cons (d_var (pv 0)) (a_cons (d_var (pv 4)) (a_nil))))) (b_cons (s_set o.nd (d_callF ok_mixture o (G_mixture kin gn c) (a_cons (d_var (pv 0)) (a_cons (d_var (pv 1)) (a_cons (d_var (pv 2)) (a_cons (d_var (pv 3)) (a_nil))))))) (b_cons (s_set o.nd (d_callF ok_reached_in o (G_reached_in kin gn c) (a_cons (d_var (pv 5)) (a_cons (d_var (pv 4)) (a_nil))))) (b_one (s_ret (d_tup (a_cons (d_tup1 o rfl (Z_tuple kin gn c) (d_sorted2 o rfl (Z_sorted kin gn c) (d_var (pv 6)))) (a_cons (d_any o rfl (Z_any kin gn c) (d_lc [("one", 7)] o (i_any o (d_var (pv 6))) (blk_of (by kernel_rfl)) (fun _ _ _ _ _ => g_name o.blk.nd) (fun _ _ _ _ _ => c_nil) (fun _ _ _ _ _ => d_in o.blk (d_var (pv 3)) (d_idx o.blk (d_var (pv 5)) (d_var (pv 7)))))) (a_cons (d_any o rfl (Z_any kin gn c) (d_lc [("one", 7)] o (i_any o (d_var (pv 6))) (blk_of (by kernel_rfl)) (fun _ _ _ _ _ => g_name o.blk.nd) (fun _ _ _ _ _ => c_nil) (fun _ _ _ _ _ => d_in o.blk (d_non) (d_idx o.blk (d_var (pv 5)) (d_var (pv 7)))))) (a_nil)))))))))))
theorem ok_ways : Fu g P w mg base 4 "ways" "ways" (top 36) ["net", "done", "lot", "goal"] (f_ways T) (He.ga g.K "ways") := by
  have ok_mixture := ok_mixture (P := P) (w := w) (base := base) kin gn c hcl sy isc gt ok__law_take
  have ok_need_goal := ok_need_goal (P := P) (w := w) (base := base) kin gn c hcl sy isc gt ok__law_take
  have ok_need_round := ok_need_round (P := P) (w := w) (base := base) kin gn c hcl sy isc gt ok__law_take
  refine fu_of (N := ["net", "done", "lot", "goal"]) sy (c.def_ 26 (d := ⟨("ways", none), "ways", "ways", defArgs (top 36), defBody (top 36), defScope (top 36), [], []⟩) rfl) ⟨rfl, rfl, rfl, by decide +kernel, rfl, by decide +kernel, by decide +kernel⟩ (fun _ _ _ _ _ _ us hl => match us, hl with | [_, _, _, _], _ => rfl) fun cdv A outer s H o => ?_
  exact b_cons (s_expr (d_callF ok_need_round o (G_need_round kin gn c) (a_cons (d_var (pv 0)) (a_cons (d_var (pv 1)) (a_cons (d_var (pv 2)) (a_nil)))))) (b_cons (s_expr (d_callF ok_need_goal o (G_need_goal kin gn c) (a_cons (d_var (pv 0)) (a_cons (d_var (pv 3)) (a_nil))))) (b_one (s_ret (d_callF ok_mixture o (G_mixture kin gn c) (a_cons (d_var (pv 0)) (a_cons (d_var (pv 1)) (a_cons (d_var (pv 2)) (a_cons (d_var (pv 3)) (a_nil)))))))))
theorem ok__law_goals_right : Fu g P w mg base 7 "_law_goals_right" "_law_goals_right" (top 61) ["a", "b", "end", "other"] (f__law_goals_right T) (He.ga g.K "_law_goals_right") := by
  have ok_Net___init___d2 := ok_Net___init___d2 (P := P) (w := w) (base := base) kin gn c hcl sy isc gt ok__law_take
  have ok_Net___init__ := ok_Net___init__ (P := P) (w := w) (base := base) kin gn c hcl sy isc gt ok__law_take
  have ok_Net_changing := ok_Net_changing (P := P) (w := w) (base := base) kin gn c hcl sy isc gt ok__law_take
  have ok_depths := ok_depths (P := P) (w := w) (base := base) kin gn c hcl sy isc gt ok__law_take
  have ok_led := ok_led (P := P) (w := w) (base := base) kin gn c hcl sy isc gt ok__law_take
  have ok_reached := ok_reached (P := P) (w := w) (base := base) kin gn c hcl sy isc gt ok__law_take
  have ok_ways := ok_ways (P := P) (w := w) (base := base) kin gn c hcl sy isc gt ok__law_take
  refine fu_of (N := ["a", "b", "end", "other", "rows", "made", "both"]) sy (c.def_ 50 (d := ⟨("_law_goals_right", none), "_law_goals_right", "_law_goals_right", defArgs (top 61), defBody (top 61), defScope (top 61), [], []⟩) rfl) ⟨rfl, rfl, rfl, by decide +kernel, rfl, by decide +kernel, by decide +kernel⟩ (fun _ _ _ _ _ _ us hl => match us, hl with | [_, _, _, _], _ => rfl) fun cdv A outer s H o => ?_
  exact b_cons (s_set o.nd (d_disp o (p_cons (d_var (pv 2)) (d_tup (a_cons (d_disp o (p_cons (d_var (pv 0)) (d_var (pv 2)) (p_cons (d_var (pv 1)) (d_var (pv 0)) (p_nil)))) (a_cons (d_disp o (p_cons (d_var (pv 0)) (d_var (pv 2)) (p_cons (d_var (pv 1)) (d_non) (p_nil)))) (a_nil)))) (p_cons (d_var (pv 3)) (d_tup (a_cons (d_disp o (p_cons (d_var (pv 0)) (d_var (pv 1)) (p_cons (d_var (pv 1)) (d_var (pv 3)) (p_nil)))) (a_cons (d_disp o (p_cons (d_var (pv 0)) (d_var (pv 3)) (p_cons (d_var (pv 1)) (d_var (pv 3)) (p_nil)))) (a_nil)))) (p_nil))))) (b_cons (s_set o.nd (d_makeE 0 ok_Net___init___d2 o (Mk_0 c hcl) (GC_0 kin gn c hcl) (a_cons (d_var (pv 4)) (a_nil)))) (b_cons (s_set o.nd (d_tup1 o rfl (Z_tuple kin gn c) (d_sorted2 o rfl (Z_sorted kin gn c) (d_lst (a_cons (d_var (pv 0)) (a_cons (d_var (pv 1)) (a_nil))))))) (b_cons (s_if (DW.t (w_or (t_neE o (d_prop ok_Net_changing o (Cl_0 c hcl) (Pr_0_changing hcl gt) (d_var (pv 5))) (d_var (pv 6))) (w_one_or (t_neE o (d_callF ok_ways o (G_ways kin gn c) (a_cons (d_var (pv 5)) (a_cons (d_tup (a_nil)) (a_cons (d_var (pv 6)) (a_cons (d_var (pv 2)) (a_nil)))))) (d_disp o (p_cons (d_var (pv 0)) (d_lst (a_cons (d_var (pv 2)) (a_nil))) (p_cons (d_var (pv 1)) (d_lst (a_cons (d_var (pv 0)) (a_cons (d_non) (a_nil)))) (p_nil)))))))) (b_one (s_ret (d_bl))) (b_nil)) (b_cons (s_if (DW.t (w_or (t_neE o (d_callF ok_ways o (G_ways kin gn c) (a_cons (d_var (pv 5)) (a_cons (d_tup (a_nil)) (a_cons (d_var (pv 6)) (a_cons (d_var (pv 3)) (a_nil)))))) (d_disp o (p_cons (d_var (pv 0)) (d_lst (a_cons (d_var (pv 1)) (a_cons (d_var (pv 3)) (a_nil)))) (p_cons (d_var (pv 1)) (d_lst (a_cons (d_var (pv 3)) (a_nil))) (p_nil))))) (w_one_or (t_neE o (d_callF ok_led o (G_led kin gn c) (a_cons (d_var (pv 5)) (a_cons (d_tup (a_cons (d_var (pv 1)) (a_nil))) (a_cons (d_tup (a_nil)) (a_cons (d_var (pv 2)) (a_cons (d_var (pv 1)) (a_nil))))))) (d_lst (a_cons (d_var (pv 1)) (a_cons (d_non) (a_nil)))))))) (b_one (s_ret (d_bl))) (b_nil)) (b_cons (s_if (t_neE o (d_callF ok_reached o (G_reached kin gn c) (a_cons (d_var (pv 5)) (a_cons (d_tup (a_nil)) (a_cons (d_tup (a_cons (d_var (pv 1)) (a_nil))) (a_cons (d_var (pv 2)) (a_cons (d_var (pv 1)) (a_nil))))))) (d_tup (a_cons (d_var (pv 6)) (a_cons (d_bl) (a_cons (d_bl) (a_nil)))))) (b_one (s_ret (d_bl))) (b_nil)) (b_cons (s_if (t_neE o (d_callF ok_reached o (G_reached kin gn c) (a_cons (d_var (pv 5)) (a_cons (d_tup (a_cons (d_var (pv 1)) (a_nil))) (a_cons (d_tup (a_nil)) (a_cons (d_var (pv 2)) (a_cons (d_var (pv 1)) (a_nil))))))) (d_tup (a_cons (d_tup (a_cons (d_var (pv 1)) (a_nil))) (a_cons (d_bl) (a_cons (d_bl) (a_nil)))))) (b_one (s_ret (d_bl))) (b_nil)) (b_one (s_ret (d_and (d_eqE o (d_callF ok_depths o (G_depths kin gn c) (a_cons (d_var (pv 5)) (a_cons (d_var (pv 2)) (a_cons (d_bl) (a_nil))))) (d_disp o (p_cons (d_var (pv 0)) (d_int) (p_cons (d_var (pv 1)) (d_non) (p_nil))))) (d_one (d_eqE o (d_callF ok_depths o (G_depths kin gn c) (a_cons (d_var (pv 5)) (a_cons (d_var (pv 3)) (a_cons (d_bl) (a_nil))))) (d_disp o (p_cons (d_var (pv 0)) (d_int) (p_cons (d_var (pv 1)) (d_int) (p_nil)))))))))))))))
theorem ok_does_lead : Fu g P w mg base 2 "does_lead" "does_lead" (top 46) ["net", "done", "goal", "step", "later"] (f_does_lead T) (He.ga g.K "does_lead") := by
  have ok_moment_ways := ok_moment_ways (P := P) (w := w) (base := base) kin gn c hcl sy isc gt ok__law_take
  refine fu_of (N := ["net", "done", "goal", "step", "later", "place", "changed", "node"]) sy (c.def_ 36 (d := ⟨("does_lead", none), "does_lead", "does_lead", defArgs (top 46), defBody (top 46), defScope (top 46), [], []⟩) rfl) ⟨rfl, rfl, rfl, by decide +kernel, rfl, by decide +kernel, by decide +kernel⟩ (fun _ _ _ _ _ _ us hl => match us, hl with | [_, _, _, _, _], _ => rfl) fun cdv A outer s H o => ?_
  exact b_cons (s_unp (d_var (pv 3)) (g_tup o (ts_cons (g_name o.nd) (ts_cons (g_name o.nd) (ts_nil))))) (b_cons (s_if (DW.t (w_or (t_nin o (d_var (pv 5)) (d_fld 0 (Cl_0 c hcl) (Na_0_own_nodes c hcl) (d_var (pv 0)))) (w_one_or (t_not (t_val (d_all o rfl (Z_all kin gn c) (d_lc [("node", 7)] o (i_any o (d_var (pv 6))) (blk_of (by kernel_rfl)) (fun _ _ _ _ _ => g_name o.blk.nd) (fun _ _ _ _ _ => c_nil) (fun _ _ _ _ _ => d_in o.blk (d_var (pv 7)) (d_idx o.blk (d_var (pv 4)) (d_int)))))))))) (b_one (s_ret (d_bl))) (b_nil)) (b_one (s_ret (d_eq o (d_idx o (d_callF ok_moment_ways o (G_moment_ways kin gn c) (a_cons (d_var (pv 0)) (a_cons (d_var (pv 1)) (a_cons (d_var (pv 6)) (a_cons (d_var (pv 2)) (a_nil)))))) (d_var (pv 5))) (d_idx o (d_var (pv 4)) (d_int))))))
theorem ok_is_moment : Fu g P w mg base 2 "is_moment" "is_moment" (top 44) ["net", "lot", "thing"] (f_is_moment T) (He.ga g.K "is_moment") := by
  have ok_is_lot := ok_is_lot (P := P) (w := w) (base := base) kin gn c hcl sy isc gt ok__law_take
  refine fu_of (N := ["net", "lot", "thing", "node"]) sy (c.def_ 34 (d := ⟨("is_moment", none), "is_moment", "is_moment", defArgs (top 44), defBody (top 44), defScope (top 44), [], []⟩) rfl) ⟨rfl, rfl, rfl, by decide +kernel, rfl, by decide +kernel, by decide +kernel⟩ (fun _ _ _ _ _ _ us hl => match us, hl with | [_, _, _], _ => rfl) fun cdv A outer s H o => ?_
  exact b_one (s_ret (d_and (d_callF ok_is_lot o (G_is_lot kin gn c) (a_cons (d_var (pv 0)) (a_cons (d_var (pv 2)) (a_nil)))) (d_one (d_all o rfl (Z_all kin gn c) (d_lc [("node", 3)] o (i_any o (d_var (pv 2))) (blk_of (by kernel_rfl)) (fun _ _ _ _ _ => g_name o.blk.nd) (fun _ _ _ _ _ => c_nil) (fun _ _ _ _ _ => d_in o.blk (d_var (pv 3)) (d_var (pv 1))))))))
theorem ok_is_step : Fu g P w mg base 3 "is_step" "is_step" (top 45) ["net", "lot", "thing"] (f_is_step T) (He.ga g.K "is_step") := by
  have ok_is_moment := ok_is_moment (P := P) (w := w) (base := base) kin gn c hcl sy isc gt ok__law_take
  refine fu_of (N := ["net", "lot", "thing"]) sy (c.def_ 35 (d := ⟨("is_step", none), "is_step", "is_step", defArgs (top 45), defBody (top 45), defScope (top 45), [], []⟩) rfl) ⟨rfl, rfl, rfl, by decide +kernel, rfl, by decide +kernel, by decide +kernel⟩ (fun _ _ _ _ _ _ us hl => match us, hl with | [_, _, _], _ => rfl) fun cdv A outer s H o => ?_
  exact b_cons (s_if (DW.t (w_or (t_not (t_val (d_isi o rfl (Z_isinstance kin gn c) rfl (Z_tuple kin gn c) (d_var (pv 2))))) (w_or (t_ne o (d_len' o rfl (Z_len kin gn c) (d_var (pv 2))) (d_int)) (w_one_or (t_not (t_val (d_callF ok_is_moment o (G_is_moment kin gn c) (a_cons (d_var (pv 0)) (a_cons (d_var (pv 1)) (a_cons (d_idx o (d_var (pv 2)) (d_int)) (a_nil))))))))))) (b_one (s_ret (d_bl))) (b_nil)) (b_one (s_ret (d_or (d_isN (d_idx o (d_var (pv 2)) (d_int))) (d_one (d_isi o rfl (Z_isinstance kin gn c) rfl (Z_str kin gn c) (d_idx o (d_var (pv 2)) (d_int)))))))
theorem ok_is_moving : Fu g P w mg base 4 "is_moving" "is_moving" (top 47) ["net", "done", "lot", "goal", "node", "thing"] (f_is_moving T) (He.ga g.K "is_moving") := by
  have ok_does_lead := ok_does_lead (P := P) (w := w) (base := base) kin gn c hcl sy isc gt ok__law_take
  have ok_is_list := ok_is_list (P := P) (w := w) (base := base) kin gn c hcl sy isc gt ok__law_take
  have ok_is_step := ok_is_step (P := P) (w := w) (base := base) kin gn c hcl sy isc gt ok__law_take
  have ok_need_goal := ok_need_goal (P := P) (w := w) (base := base) kin gn c hcl sy isc gt ok__law_take
  have ok_need_node := ok_need_node (P := P) (w := w) (base := base) kin gn c hcl sy isc gt ok__law_take
  have ok_need_round := ok_need_round (P := P) (w := w) (base := base) kin gn c hcl sy isc gt ok__law_take
  refine fu_of (N := ["net", "done", "lot", "goal", "node", "thing", "step", "later"]) sy (c.def_ 37 (d := ⟨("is_moving", none), "is_moving", "is_moving", defArgs (top 47), defBody (top 47), defScope (top 47), [], []⟩) rfl) ⟨rfl, rfl, rfl, by decide +kernel, rfl, by decide +kernel, by decide +kernel⟩ (fun _ _ _ _ _ _ us hl => match us, hl with | [_, _, _, _, _, _], _ => rfl) fun cdv A outer s H o => ?_
  exact b_cons (s_expr (d_callF ok_need_round o (G_need_round kin gn c) (a_cons (d_var (pv 0)) (a_cons (d_var (pv 1)) (a_cons (d_var (pv 2)) (a_nil)))))) (b_cons (s_expr (d_callF ok_need_goal o (G_need_goal kin gn c) (a_cons (d_var (pv 0)) (a_cons (d_var (pv 3)) (a_nil))))) (b_cons (s_expr (d_callF ok_need_node o (G_need_node kin gn c) (a_cons (d_var (pv 0)) (a_cons (d_var (pv 4)) (a_nil))))) (b_cons (s_if (DW.t (w_or (t_not (t_val (d_callF ok_is_list o (G_is_list kin gn c) (a_cons (d_var (pv 5)) (a_nil))))) (w_or (t_eq o (d_len' o rfl (Z_len kin gn c) (d_var (pv 5))) (d_int)) (w_one_or (t_not (t_val (d_all o rfl (Z_all kin gn c) (d_lc [("step", 6)] o (i_any o (d_var (pv 5))) (blk_of (by kernel_rfl)) (fun _ _ _ _ _ => g_name o.blk.nd) (fun _ _ _ _ _ => c_nil) (fun _ _ _ _ _ => d_callF ok_is_step o.blk (G_is_step kin gn c) (a_cons (d_var (pv 0)) (a_cons (d_var (pv 2)) (a_cons (d_var (pv 6)) (a_nil))))))))))))) (b_one (s_ret (d_bl))) (b_nil)) (b_cons (s_if (t_ne o (d_idx o (d_idx o (d_var (pv 5)) (d_int)) (d_int)) (d_var (pv 4))) (b_one (s_ret (d_bl))) (b_nil)) (b_one (s_ret (d_all o rfl (Z_all kin gn c) (d_lc [("step", 6), ("later", 7)] o (i_zip o rfl (Z_zip kin gn c) (a_cons (d_var (pv 5)) (a_cons (d_slice o (d_var (pv 5)) (o_some (d_int)) (o_none)) (a_nil)))) (blk_of (by kernel_rfl)) (fun _ _ _ _ _ => g_tup o.blk (ts_cons (g_name o.blk.nd) (ts_cons (g_name o.blk.nd) (ts_nil)))) (fun _ _ _ _ _ => c_nil) (fun _ _ _ _ _ => d_callF ok_does_lead o.blk (G_does_lead kin gn c) (a_cons (d_var (pv 0)) (a_cons (d_var (pv 1)) (a_cons (d_var (pv 3)) (a_cons (d_var (pv 6)) (a_cons (d_var (pv 7)) (a_nil)))))))))))))))
theorem ok_ranks_in : Fu g P w mg base 2 "ranks_in" "ranks_in" (top 40) ["web"] (f_ranks_in T) (He.ga g.K "ranks_in") := by
  have ok_next_nodes := ok_next_nodes (P := P) (w := w) (base := base) kin gn c hcl sy isc gt ok__law_take
  refine fu_of (N := ["web", "found", "turn", "node", "place"]) sy (c.def_ 30 (d := ⟨("ranks_in", none), "ranks_in", "ranks_in", defArgs (top 40), defBody (top 40), defScope (top 40), [], []⟩) rfl) ⟨rfl, rfl, rfl, by decide +kernel, rfl, by decide +kernel, by decide +kernel⟩ (fun _ _ _ _ _ _ us hl => match us, hl with | [_], _ => rfl) fun cdv A outer s H o => ?_
  exact b_cons (s_set o.nd (d_dct0)) (b_cons (s_for .never rfl (i_range1 rfl (Z_range kin gn c) (d_len' o rfl (Z_len kin gn c) (d_var (pv 0)))) (g_name o.nd) (b_one (s_for .never rfl (i_any o (d_var (pv 0))) (g_name o.nd) (b_one (s_if (DW.t (w_and (t_nin o (d_var (pv 3)) (d_var (pv 1))) (w_one_and (t_val (d_all o rfl (Z_all kin gn c) (d_lc [("place", 4)] o (i_any o (d_callF ok_next_nodes o (G_next_nodes kin gn c) (a_cons (d_var (pv 0)) (a_cons (d_var (pv 3)) (a_nil))))) (blk_of (by kernel_rfl)) (fun _ _ _ _ _ => g_name o.blk.nd) (fun _ _ _ _ _ => c_nil) (fun _ _ _ _ _ => d_in o.blk (d_var (pv 4)) (d_var (pv 1))))))))) (b_one (s_put o (pv 1) (d_var (pv 3)) (d_add o (d_max1 o rfl (Z_max kin gn c) (d_add o (d_lst (a_cons (d_neg (d_int)) (a_nil))) (d_lc [("place", 4)] o (i_any o (d_callF ok_next_nodes o (G_next_nodes kin gn c) (a_cons (d_var (pv 0)) (a_cons (d_var (pv 3)) (a_nil))))) (blk_of (by kernel_rfl)) (fun _ _ _ _ _ => g_name o.blk.nd) (fun _ _ _ _ _ => c_nil) (fun _ _ _ _ _ => d_idx o.blk (d_var (pv 1)) (d_var (pv 4)))))) (d_int)) (pg_sub (pv 1) (d_var (pv 3)) (PSet.or set_list (set_dict o.hu))))) (b_nil)))))) (b_one (s_ret (d_if (t_eq o (d_len' o rfl (Z_len kin gn c) (d_var (pv 1))) (d_len' o rfl (Z_len kin gn c) (d_var (pv 0)))) (d_dc [("node", 3)] o (i_any o (d_var (pv 0))) (blk_of (by kernel_rfl)) (fun _ _ _ _ _ => g_name o.blk.nd) (fun _ _ _ _ _ => c_nil) (fun _ _ _ _ _ => d_var (pv 3)) (fun _ _ _ _ _ => d_idx o.blk (d_var (pv 1)) (d_var (pv 3)))) (d_non)))))
theorem ok_ranks : Fu g P w mg base 4 "ranks" "ranks" (top 41) ["net", "done", "lot", "goal"] (f_ranks T) (He.ga g.K "ranks") := by
  have ok_mixture := ok_mixture (P := P) (w := w) (base := base) kin gn c hcl sy isc gt ok__law_take
  have ok_need_goal := ok_need_goal (P := P) (w := w) (base := base) kin gn c hcl sy isc gt ok__law_take
  have ok_need_round := ok_need_round (P := P) (w := w) (base := base) kin gn c hcl sy isc gt ok__law_take
  have ok_ranks_in := ok_ranks_in (P := P) (w := w) (base := base) kin gn c hcl sy isc gt ok__law_take
  refine fu_of (N := ["net", "done", "lot", "goal"]) sy (c.def_ 31 (d := ⟨("ranks", none), "ranks", "ranks", defArgs (top 41), defBody (top 41), defScope (top 41), [], []⟩) rfl) ⟨rfl, rfl, rfl, by decide +kernel, rfl, by decide +kernel, by decide +kernel⟩ (fun _ _ _ _ _ _ us hl => match us, hl with | [_, _, _, _], _ => rfl) fun cdv A outer s H o => ?_
  exact b_cons (s_expr (d_callF ok_need_round o (G_need_round kin gn c) (a_cons (d_var (pv 0)) (a_cons (d_var (pv 1)) (a_cons (d_var (pv 2)) (a_nil)))))) (b_cons (s_expr (d_callF ok_need_goal o (G_need_goal kin gn c) (a_cons (d_var (pv 0)) (a_cons (d_var (pv 3)) (a_nil))))) (b_one (s_ret (d_callF ok_ranks_in o (G_ranks_in kin gn c) (a_cons (d_callF ok_mixture o (G_mixture kin gn c) (a_cons (d_var (pv 0)) (a_cons (d_var (pv 1)) (a_cons (d_var (pv 2)) (a_cons (d_var (pv 3)) (a_nil)))))) (a_nil))))))
theorem ok_rings_from : Fu g P w mg base 2 "rings_from" "rings_from" (top 37) ["web", "node", "size"] (f_rings_from T) (He.ga g.K "rings_from") := by
  have ok_next_nodes := ok_next_nodes (P := P) (w := w) (base := base) kin gn c hcl sy isc gt ok__law_take
  refine fu_of (N := ["web", "node", "size", "paths", "turn", "longer", "path", "place"]) sy (c.def_ 27 (d := ⟨("rings_from", none), "rings_from", "rings_from", defArgs (top 37), defBody (top 37), defScope (top 37), [], []⟩) rfl) ⟨rfl, rfl, rfl, by decide +kernel, rfl, by decide +kernel, by decide +kernel⟩ (fun _ _ _ _ _ _ us hl => match us, hl with | [_, _, _], _ => rfl) fun cdv A outer s H o => ?_
  exact b_cons (s_set o.nd (d_lst (a_cons (d_tup (a_cons (d_var (pv 1)) (a_nil))) (a_nil)))) (b_cons (s_for .never rfl (i_range1 rfl (Z_range kin gn c) (d_sub (d_var (pv 2)) (d_int))) (g_name o.nd) (b_cons (s_set o.nd (d_lst (a_nil))) (b_cons (s_for .never rfl (i_any o (d_var (pv 3))) (g_name o.nd) (b_one (s_expr (d_ext (pe_bm PySem.F.plainAttrs_list PySem.F.slot_list_extend PySem.F.type_list_extend mt_extend (pv 5) (a_cons (d_lc [("place", 7)] o (i_any o (d_callF ok_next_nodes o (G_next_nodes kin gn c) (a_cons (d_var (pv 0)) (a_cons (d_idx o (d_var (pv 6)) (d_neg (d_int))) (a_nil))))) (blk_of (by kernel_rfl)) (fun _ _ _ _ _ => g_name o.blk.nd) (fun _ _ _ _ _ => c_one (DW.t (w_and (t_gtD (d_var (pv 7)) (d_var (pv 1))) (w_one_and (t_nin o.blk (d_var (pv 7)) (d_var (pv 6))))))) (fun _ _ _ _ _ => d_starT o.blk (d_var (pv 6)) (a_cons (d_var (pv 7)) (a_nil)))) (a_nil))))))) (b_one (s_set o.nd (d_var (pv 5))))))) (b_one (s_ret (d_lc [("path", 6)] o (i_any o (d_var (pv 3))) (blk_of (by kernel_rfl)) (fun _ _ _ _ _ => g_name o.blk.nd) (fun _ _ _ _ _ => c_one (t_in o.blk (d_var (pv 1)) (d_idx o.blk (d_var (pv 0)) (d_idx o.blk (d_var (pv 6)) (d_neg (d_int)))))) (fun _ _ _ _ _ => d_var (pv 6))))))
theorem ok_ring_in : Fu g P w mg base 3 "ring_in" "ring_in" (top 38) ["web"] (f_ring_in T) (He.ga g.K "ring_in") := by
  have ok_rings_from := ok_rings_from (P := P) (w := w) (base := base) kin gn c hcl sy isc gt ok__law_take
  refine fu_of (N := ["web", "size", "rings", "node"]) sy (c.def_ 28 (d := ⟨("ring_in", none), "ring_in", "ring_in", defArgs (top 38), defBody (top 38), defScope (top 38), [], []⟩) rfl) ⟨rfl, rfl, rfl, by decide +kernel, rfl, by decide +kernel, by decide +kernel⟩ (fun _ _ _ _ _ _ us hl => match us, hl with | [_], _ => rfl) fun cdv A outer s H o => ?_
  exact b_cons (s_for .never rfl (i_range2 rfl (Z_range kin gn c) (d_int) (d_add o (d_len' o rfl (Z_len kin gn c) (d_var (pv 0))) (d_int))) (g_name o.nd) (b_cons (s_set o.nd (d_lst (a_nil))) (b_cons (s_for .never rfl (i_any o (d_var (pv 0))) (g_name o.nd) (b_one (s_expr (d_ext (pe_bm PySem.F.plainAttrs_list PySem.F.slot_list_extend PySem.F.type_list_extend mt_extend (pv 2) (a_cons (d_callF ok_rings_from o (G_rings_from kin gn c) (a_cons (d_var (pv 0)) (a_cons (d_var (pv 3)) (a_cons (d_var (pv 1)) (a_nil))))) (a_nil))))))) (b_one (s_if (t_gtD (d_len' o rfl (Z_len kin gn c) (d_var (pv 2))) (d_int)) (b_one (s_ret (d_minF o rfl (Z_min kin gn c) (d_var (pv 2))))) (b_nil)))))) (b_one (s_ret (d_non)))
theorem ok_ring : Fu g P w mg base 4 "ring" "ring" (top 39) ["net", "done", "lot", "goal"] (f_ring T) (He.ga g.K "ring") := by
  have ok_mixture := ok_mixture (P := P) (w := w) (base := base) kin gn c hcl sy isc gt ok__law_take
  have ok_need_goal := ok_need_goal (P := P) (w := w) (base := base) kin gn c hcl sy isc gt ok__law_take
  have ok_need_round := ok_need_round (P := P) (w := w) (base := base) kin gn c hcl sy isc gt ok__law_take
  have ok_ring_in := ok_ring_in (P := P) (w := w) (base := base) kin gn c hcl sy isc gt ok__law_take
  refine fu_of (N := ["net", "done", "lot", "goal"]) sy (c.def_ 29 (d := ⟨("ring", none), "ring", "ring", defArgs (top 39), defBody (top 39), defScope (top 39), [], []⟩) rfl) ⟨rfl, rfl, rfl, by decide +kernel, rfl, by decide +kernel, by decide +kernel⟩ (fun _ _ _ _ _ _ us hl => match us, hl with | [_, _, _, _], _ => rfl) fun cdv A outer s H o => ?_
  exact b_cons (s_expr (d_callF ok_need_round o (G_need_round kin gn c) (a_cons (d_var (pv 0)) (a_cons (d_var (pv 1)) (a_cons (d_var (pv 2)) (a_nil)))))) (b_cons (s_expr (d_callF ok_need_goal o (G_need_goal kin gn c) (a_cons (d_var (pv 0)) (a_cons (d_var (pv 3)) (a_nil))))) (b_one (s_ret (d_callF ok_ring_in o (G_ring_in kin gn c) (a_cons (d_callF ok_mixture o (G_mixture kin gn c) (a_cons (d_var (pv 0)) (a_cons (d_var (pv 1)) (a_cons (d_var (pv 2)) (a_cons (d_var (pv 3)) (a_nil)))))) (a_nil))))))
theorem ok_lasso_from : Fu g P w mg base 2 "lasso_from" "lasso_from" (top 50) ["web", "node"] (f_lasso_from T) (He.ga g.K "lasso_from") := by
  have ok_next_nodes := ok_next_nodes (P := P) (w := w) (base := base) kin gn c hcl sy isc gt ok__law_take
  refine fu_of (N := ["web", "node", "paths", "longer", "path", "place"]) sy (c.def_ 40 (d := ⟨("lasso_from", none), "lasso_from", "lasso_from", defArgs (top 50), defBody (top 50), defScope (top 50), [], []⟩) rfl) ⟨rfl, rfl, rfl, by decide +kernel, rfl, by decide +kernel, by decide +kernel⟩ (fun _ _ _ _ _ _ us hl => match us, hl with | [_, _], _ => rfl) fun cdv A outer s H o => ?_
  exact b_cons (s_set o.nd (d_lst (a_cons (d_tup (a_cons (d_var (pv 1)) (a_nil))) (a_nil)))) (b_cons (s_while .never (t_gtD (d_len' o rfl (Z_len kin gn c) (d_var (pv 2))) (d_int)) (b_cons (s_set o.nd (d_lst (a_nil))) (b_cons (s_for .never rfl (i_any o (d_var (pv 2))) (g_name o.nd) (b_one (s_for .never rfl (i_any o (d_callF ok_next_nodes o (G_next_nodes kin gn c) (a_cons (d_var (pv 0)) (a_cons (d_idx o (d_var (pv 4)) (d_neg (d_int))) (a_nil))))) (g_name o.nd) (b_cons (s_if (t_in o (d_var (pv 5)) (d_var (pv 4))) (b_one (s_ret (d_starL o (d_var (pv 4)) (a_cons (d_var (pv 5)) (a_nil))))) (b_nil)) (b_one (s_expr (d_mL m_app (pe_bm PySem.F.plainAttrs_list PySem.F.slot_list_append PySem.F.type_list_append mt_append (pv 3) (a_cons (d_starT o (d_var (pv 4)) (a_cons (d_var (pv 5)) (a_nil))) (a_nil)))))))))) (b_one (s_set o.nd (d_var (pv 3))))))) (b_one (s_ret (d_non))))
theorem ok_moment_of : Fu g P w mg base 1 "moment_of" "moment_of" (top 51) ["net", "lot", "goal", "places"] (f_moment_of T) (He.ga g.K "moment_of") := by
  refine fu_of (N := ["net", "lot", "goal", "places", "new", "node"]) sy (c.def_ 41 (d := ⟨("moment_of", none), "moment_of", "moment_of", defArgs (top 51), defBody (top 51), defScope (top 51), [], []⟩) rfl) ⟨rfl, rfl, rfl, by decide +kernel, rfl, by decide +kernel, by decide +kernel⟩ (fun _ _ _ _ _ _ us hl => match us, hl with | [_, _, _, _], _ => rfl) fun cdv A outer s H o => ?_
  exact b_cons (s_set o.nd (d_idx o (d_idx o (d_fld 0 (Cl_0 c hcl) (Na_0_own_tables c hcl) (d_var (pv 0))) (d_var (pv 2))) (d_int))) (b_one (s_ret (d_tup1 o rfl (Z_tuple kin gn c) (d_lc [("node", 5)] o (i_any o (d_var (pv 1))) (blk_of (by kernel_rfl)) (fun _ _ _ _ _ => g_name o.blk.nd) (fun _ _ _ _ _ => c_one (DW.t (w_and (t_in o.blk (d_var (pv 5)) (d_slice o.blk (d_var (pv 3)) (o_none) (o_some (d_neg (d_int))))) (w_one_and (t_eq o.blk (d_idx o.blk (d_var (pv 4)) (d_var (pv 5))) (d_idx o.blk (d_var (pv 3)) (d_add o.blk (d_index o.blk (d_var (pv 3)) (d_var (pv 5))) (d_int)))))))) (fun _ _ _ _ _ => d_var (pv 5))))))
theorem ok_twice : Fu g P w mg base 4 "twice" "twice" (top 52) ["net", "done", "lot", "goal", "node"] (f_twice T) (He.ga g.K "twice") := by
  have ok_lasso_from := ok_lasso_from (P := P) (w := w) (base := base) kin gn c hcl sy isc gt ok__law_take
  have ok_mixture := ok_mixture (P := P) (w := w) (base := base) kin gn c hcl sy isc gt ok__law_take
  have ok_moment_of := ok_moment_of (P := P) (w := w) (base := base) kin gn c hcl sy isc gt ok__law_take
  have ok_need_goal := ok_need_goal (P := P) (w := w) (base := base) kin gn c hcl sy isc gt ok__law_take
  have ok_need_node := ok_need_node (P := P) (w := w) (base := base) kin gn c hcl sy isc gt ok__law_take
  have ok_need_round := ok_need_round (P := P) (w := w) (base := base) kin gn c hcl sy isc gt ok__law_take
  refine fu_of (N := ["net", "done", "lot", "goal", "node", "places", "moment", "place"]) sy (c.def_ 42 (d := ⟨("twice", none), "twice", "twice", defArgs (top 52), defBody (top 52), defScope (top 52), [], []⟩) rfl) ⟨rfl, rfl, rfl, by decide +kernel, rfl, by decide +kernel, by decide +kernel⟩ (fun _ _ _ _ _ _ us hl => match us, hl with | [_, _, _, _, _], _ => rfl) fun cdv A outer s H o => ?_
  exact b_cons (s_expr (d_callF ok_need_round o (G_need_round kin gn c) (a_cons (d_var (pv 0)) (a_cons (d_var (pv 1)) (a_cons (d_var (pv 2)) (a_nil)))))) (b_cons (s_expr (d_callF ok_need_goal o (G_need_goal kin gn c) (a_cons (d_var (pv 0)) (a_cons (d_var (pv 3)) (a_nil))))) (b_cons (s_expr (d_callF ok_need_node o (G_need_node kin gn c) (a_cons (d_var (pv 0)) (a_cons (d_var (pv 4)) (a_nil))))) (b_cons (s_set o.nd (d_callF ok_lasso_from o (G_lasso_from kin gn c) (a_cons (d_callF ok_mixture o (G_mixture kin gn c) (a_cons (d_var (pv 0)) (a_cons (d_var (pv 1)) (a_cons (d_var (pv 2)) (a_cons (d_var (pv 3)) (a_nil)))))) (a_cons (d_var (pv 4)) (a_nil))))) (b_cons (s_if (t_isN (d_var (pv 5))) (b_one (s_ret (d_non))) (b_nil)) (b_cons (s_set o.nd (d_callF ok_moment_of o (G_moment_of kin gn c) (a_cons (d_var (pv 0)) (a_cons (d_var (pv 2)) (a_cons (d_var (pv 3)) (a_cons (d_var (pv 5)) (a_nil))))))) (b_one (s_ret (d_lc [("place", 7)] o (i_any o (d_var (pv 5))) (blk_of (by kernel_rfl)) (fun _ _ _ _ _ => g_name o.blk.nd) (fun _ _ _ _ _ => c_nil) (fun _ _ _ _ _ => d_tup (a_cons (d_var (pv 7)) (a_cons (d_var (pv 6)) (a_nil))))))))))))
theorem ok__law_pair_right : Fu g P w mg base 7 "_law_pair_right" "_law_pair_right" (top 59) ["a", "b", "end"] (f__law_pair_right T) (He.ga g.K "_law_pair_right") := by
  have ok_Net___init___d1 := ok_Net___init___d1 (P := P) (w := w) (base := base) kin gn c hcl sy isc gt ok__law_take
  have ok_Net___init__ := ok_Net___init__ (P := P) (w := w) (base := base) kin gn c hcl sy isc gt ok__law_take
  have ok_Net_changing := ok_Net_changing (P := P) (w := w) (base := base) kin gn c hcl sy isc gt ok__law_take
  have ok_is_moving := ok_is_moving (P := P) (w := w) (base := base) kin gn c hcl sy isc gt ok__law_take
  have ok_led := ok_led (P := P) (w := w) (base := base) kin gn c hcl sy isc gt ok__law_take
  have ok_ranks := ok_ranks (P := P) (w := w) (base := base) kin gn c hcl sy isc gt ok__law_take
  have ok_ring := ok_ring (P := P) (w := w) (base := base) kin gn c hcl sy isc gt ok__law_take
  have ok_twice := ok_twice (P := P) (w := w) (base := base) kin gn c hcl sy isc gt ok__law_take
  have ok_ways := ok_ways (P := P) (w := w) (base := base) kin gn c hcl sy isc gt ok__law_take
  refine fu_of (N := ["a", "b", "end", "made", "both", "late_here", "step"]) sy (c.def_ 48 (d := ⟨("_law_pair_right", none), "_law_pair_right", "_law_pair_right", defArgs (top 59), defBody (top 59), defScope (top 59), [], []⟩) rfl) ⟨rfl, rfl, rfl, by decide +kernel, rfl, by decide +kernel, by decide +kernel⟩ (fun _ _ _ _ _ _ us hl => match us, hl with | [_, _, _], _ => rfl) fun cdv A outer s H o => ?_
  exact b_cons (s_set o.nd (d_makeE 0 ok_Net___init___d1 o (Mk_0 c hcl) (GC_0 kin gn c hcl) (a_cons (d_disp o (p_cons (d_var (pv 2)) (d_tup (a_cons (d_disp o (p_cons (d_var (pv 0)) (d_var (pv 1)) (p_cons (d_var (pv 1)) (d_var (pv 2)) (p_nil)))) (a_cons (d_disp o (p_cons (d_var (pv 0)) (d_var (pv 2)) (p_cons (d_var (pv 1)) (d_var (pv 0)) (p_nil)))) (a_nil)))) (p_nil))) (a_cons (d_lst (a_cons (d_var (pv 0)) (a_nil))) (a_nil))))) (b_cons (s_set o.nd (d_tup1 o rfl (Z_tuple kin gn c) (d_sorted2 o rfl (Z_sorted kin gn c) (d_lst (a_cons (d_var (pv 0)) (a_cons (d_var (pv 1)) (a_nil))))))) (b_cons (s_if (DW.t (w_or (t_neE o (d_prop ok_Net_changing o (Cl_0 c hcl) (Pr_0_changing hcl gt) (d_var (pv 3))) (d_var (pv 4))) (w_one_or (t_neE o (d_callF ok_ways o (G_ways kin gn c) (a_cons (d_var (pv 3)) (a_cons (d_tup (a_nil)) (a_cons (d_var (pv 4)) (a_cons (d_var (pv 2)) (a_nil)))))) (d_disp o (p_cons (d_var (pv 0)) (d_lst (a_cons (d_var (pv 1)) (a_cons (d_var (pv 2)) (a_nil)))) (p_cons (d_var (pv 1)) (d_lst (a_cons (d_var (pv 2)) (a_cons (d_var (pv 0)) (a_nil)))) (p_nil)))))))) (b_one (s_ret (d_bl))) (b_nil)) (b_cons (s_if (DW.t (w_or (t_neE o (d_callF ok_ring o (G_ring kin gn c) (a_cons (d_var (pv 3)) (a_cons (d_tup (a_nil)) (a_cons (d_var (pv 4)) (a_cons (d_var (pv 2)) (a_nil)))))) (d_var (pv 4))) (w_or (t_neE o (d_callF ok_ring o (G_ring kin gn c) (a_cons (d_var (pv 3)) (a_cons (d_tup (a_nil)) (a_cons (d_tup (a_cons (d_var (pv 1)) (a_nil))) (a_cons (d_var (pv 2)) (a_nil)))))) (d_var (pv 4))) (w_one_or (t_neE o (d_callF ok_ring o (G_ring kin gn c) (a_cons (d_var (pv 3)) (a_cons (d_tup (a_cons (d_var (pv 1)) (a_nil))) (a_cons (d_tup (a_nil)) (a_cons (d_var (pv 2)) (a_nil)))))) (d_var (pv 4))))))) (b_one (s_ret (d_bl))) (b_nil)) (b_cons (s_if (DW.t (w_or (t_notN (d_callF ok_ring o (G_ring kin gn c) (a_cons (d_var (pv 3)) (a_cons (d_tup (a_nil)) (a_cons (d_tup (a_cons (d_var (pv 0)) (a_nil))) (a_cons (d_var (pv 2)) (a_nil))))))) (w_one_or (t_neE o (d_callF ok_ranks o (G_ranks kin gn c) (a_cons (d_var (pv 3)) (a_cons (d_tup (a_nil)) (a_cons (d_tup (a_cons (d_var (pv 0)) (a_nil))) (a_cons (d_var (pv 2)) (a_nil)))))) (d_disp o (p_cons (d_var (pv 0)) (d_int) (p_cons (d_var (pv 1)) (d_int) (p_nil)))))))) (b_one (s_ret (d_bl))) (b_nil)) (b_cons (s_if (DW.t (w_or (t_neE o (d_callF ok_led o (G_led kin gn c) (a_cons (d_var (pv 3)) (a_cons (d_tup (a_cons (d_var (pv 1)) (a_nil))) (a_cons (d_tup (a_nil)) (a_cons (d_var (pv 2)) (a_cons (d_var (pv 0)) (a_nil))))))) (d_lst (a_cons (d_var (pv 0)) (a_cons (d_var (pv 1)) (a_cons (d_var (pv 0)) (a_nil)))))) (w_one_or (t_neE o (d_callF ok_led o (G_led kin gn c) (a_cons (d_var (pv 3)) (a_cons (d_tup (a_cons (d_var (pv 0)) (a_nil))) (a_cons (d_tup (a_cons (d_var (pv 1)) (a_nil))) (a_cons (d_var (pv 2)) (a_cons (d_var (pv 1)) (a_nil))))))) (d_lst (a_cons (d_var (pv 1)) (a_cons (d_var (pv 0)) (a_cons (d_var (pv 2)) (a_nil))))))))) (b_one (s_ret (d_bl))) (b_nil)) (b_cons (s_if (DW.t (w_or (t_neE o (d_lc [("step", 6)] o (i_any o (d_callF ok_twice o (G_twice kin gn c) (a_cons (d_var (pv 3)) (a_cons (d_tup (a_nil)) (a_cons (d_var (pv 4)) (a_cons (d_var (pv 2)) (a_cons (d_var (pv 1)) (a_nil)))))))) (blk_of (by kernel_rfl)) (fun _ _ _ _ _ => g_name o.blk.nd) (fun _ _ _ _ _ => c_nil) (fun _ _ _ _ _ => d_idx o.blk (d_var (pv 6)) (d_int))) (d_lst (a_cons (d_var (pv 1)) (a_cons (d_var (pv 0)) (a_cons (d_var (pv 1)) (a_nil)))))) (w_one_or (t_notN (d_callF ok_ring o (G_ring kin gn c) (a_cons (d_var (pv 3)) (a_cons (d_tup (a_cons (d_var (pv 0)) (a_nil))) (a_cons (d_tup (a_cons (d_var (pv 1)) (a_nil))) (a_cons (d_var (pv 2)) (a_nil)))))))))) (b_one (s_ret (d_bl))) (b_nil)) (b_cons (s_set o.nd (d_lst (a_cons (d_tup (a_cons (d_var (pv 0)) (a_cons (d_tup (a_nil)) (a_nil)))) (a_cons (d_tup (a_cons (d_var (pv 1)) (a_cons (d_var (pv 4)) (a_nil)))) (a_cons (d_tup (a_cons (d_var (pv 0)) (a_cons (d_var (pv 4)) (a_nil)))) (a_cons (d_tup (a_cons (d_var (pv 2)) (a_cons (d_var (pv 4)) (a_nil)))) (a_nil))))))) (b_one (s_ret (d_and (d_callF ok_is_moving o (G_is_moving kin gn c) (a_cons (d_var (pv 3)) (a_cons (d_tup (a_nil)) (a_cons (d_var (pv 4)) (a_cons (d_var (pv 2)) (a_cons (d_var (pv 0)) (a_cons (d_var (pv 5)) (a_nil)))))))) (d_one (d_not (d_callF ok_is_moving o (G_is_moving kin gn c) (a_cons (d_var (pv 3)) (a_cons (d_tup (a_nil)) (a_cons (d_var (pv 4)) (a_cons (d_var (pv 2)) (a_cons (d_var (pv 0)) (a_cons (d_rev o (d_var (pv 5))) (a_nil))))))))))))))))))))
theorem ok_is_sound : Fu g P w mg base 2 "is_sound" "is_sound" (top 28) ["net"] (f_is_sound T) (He.ga g.K "is_sound") := by
  have ok_depths_by := ok_depths_by (P := P) (w := w) (base := base) kin gn c hcl sy isc gt ok__law_take
  have ok_need_net := ok_need_net (P := P) (w := w) (base := base) kin gn c hcl sy isc gt ok__law_take
  refine fu_of (N := ["net", "goal", "pair", "table"]) sy (c.def_ 19 (d := ⟨("is_sound", none), "is_sound", "is_sound", defArgs (top 28), defBody (top 28), defScope (top 28), [], []⟩) rfl) ⟨rfl, rfl, rfl, by decide +kernel, rfl, by decide +kernel, by decide +kernel⟩ (fun _ _ _ _ _ _ us hl => match us, hl with | [_], _ => rfl) fun cdv A outer s H o => ?_
  exact b_cons (s_expr (d_callF ok_need_net o (G_need_net kin gn c) (a_cons (d_var (pv 0)) (a_nil)))) (b_cons (s_for .never rfl (i_items (d_fld 0 (Cl_0 c hcl) (Na_0_own_tables c hcl) (d_var (pv 0)))) (g_tup o (ts_cons (g_name o.nd) (ts_cons (g_name o.nd) (ts_nil)))) (b_one (s_for .never rfl (i_any o (d_var (pv 2))) (g_name o.nd) (b_one (s_if (t_inV o (d_non) (d_callF ok_depths_by o (G_depths_by kin gn c) (a_cons (d_var (pv 3)) (a_cons (d_var (pv 1)) (a_nil))))) (b_one (s_ret (d_bl))) (b_nil)))))) (b_one (s_ret (d_bl))))
theorem ok__law_three_right : Fu g P w mg base 7 "_law_three_right" "_law_three_right" (top 60) ["a", "b", "c", "end"] (f__law_three_right T) (He.ga g.K "_law_three_right") := by
  have ok_Net___init___d2 := ok_Net___init___d2 (P := P) (w := w) (base := base) kin gn c hcl sy isc gt ok__law_take
  have ok_Net___init__ := ok_Net___init__ (P := P) (w := w) (base := base) kin gn c hcl sy isc gt ok__law_take
  have ok_is_sound := ok_is_sound (P := P) (w := w) (base := base) kin gn c hcl sy isc gt ok__law_take
  have ok_ranks := ok_ranks (P := P) (w := w) (base := base) kin gn c hcl sy isc gt ok__law_take
  have ok_reached := ok_reached (P := P) (w := w) (base := base) kin gn c hcl sy isc gt ok__law_take
  have ok_ring := ok_ring (P := P) (w := w) (base := base) kin gn c hcl sy isc gt ok__law_take
  refine fu_of (N := ["a", "b", "c", "end", "made", "every", "least", "order", "first", "due", "ready", "part", "two"]) sy (c.def_ 49 (d := ⟨("_law_three_right", none), "_law_three_right", "_law_three_right", defArgs (top 60), defBody (top 60), defScope (top 60), [], []⟩) rfl) ⟨rfl, rfl, rfl, by decide +kernel, rfl, by decide +kernel, by decide +kernel⟩ (fun _ _ _ _ _ _ us hl => match us, hl with | [_, _, _, _], _ => rfl) fun cdv A outer s H o => ?_
  exact b_cons (s_set o.nd (d_makeE 0 ok_Net___init___d2 o (Mk_0 c hcl) (GC_0 kin gn c hcl) (a_cons (d_disp o (p_cons (d_var (pv 3)) (d_tup (a_cons (d_disp o (p_cons (d_var (pv 0)) (d_var (pv 3)) (p_cons (d_var (pv 1)) (d_var (pv 3)) (p_cons (d_var (pv 2)) (d_var (pv 3)) (p_nil))))) (a_cons (d_disp o (p_cons (d_var (pv 0)) (d_var (pv 1)) (p_cons (d_var (pv 1)) (d_var (pv 2)) (p_cons (d_var (pv 2)) (d_var (pv 0)) (p_nil))))) (a_nil)))) (p_nil))) (a_nil)))) (b_ixT o o.nd rfl (Z_tuple kin gn c) (d_sorted2 o rfl (Z_sorted kin gn c) (d_lst (a_cons (d_var (pv 0)) (a_cons (d_var (pv 1)) (a_cons (d_var (pv 2)) (a_nil)))))) (d_minT o rfl (Z_min kin gn c) (d_var (pv 5))) (b_cons (s_set o.nd (d_lst (a_cons (d_var (pv 0)) (a_cons (d_var (pv 1)) (a_cons (d_var (pv 2)) (a_nil)))))) (b_cons (s_set o.nd (d_index o (d_var (pv 7)) (d_idx o (d_var (pv 5)) (d_var (pv 6))))) (b_cons (s_set o.nd (d_tup1 o rfl (Z_tuple kin gn c) (d_add o (d_slice o (d_var (pv 7)) (o_some (d_var (pv 8))) (o_none)) (d_slice o (d_var (pv 7)) (o_none) (o_some (d_var (pv 8))))))) (b_cons (s_for .never rfl (i_any o (d_lst (a_cons (d_tup (a_cons (d_tup (a_nil)) (a_cons (d_var (pv 5)) (a_nil)))) (a_cons (d_tup (a_cons (d_var (pv 5)) (a_cons (d_tup (a_nil)) (a_nil)))) (a_cons (d_tup (a_cons (d_tup (a_cons (d_var (pv 0)) (a_nil))) (a_cons (d_tup1 o rfl (Z_tuple kin gn c) (d_sorted2 o rfl (Z_sorted kin gn c) (d_lst (a_cons (d_var (pv 1)) (a_cons (d_var (pv 2)) (a_nil)))))) (a_nil)))) (a_nil)))))) (g_tup o (ts_cons (g_name o.nd) (ts_cons (g_name o.nd) (ts_nil)))) (b_one (s_if (DW.t (w_or (t_neE o (d_callF ok_ring o (G_ring kin gn c) (a_cons (d_var (pv 4)) (a_cons (d_var (pv 10)) (a_cons (d_var (pv 11)) (a_cons (d_var (pv 3)) (a_nil)))))) (d_var (pv 9))) (w_one_or (t_notN (d_callF ok_ranks o (G_ranks kin gn c) (a_cons (d_var (pv 4)) (a_cons (d_var (pv 10)) (a_cons (d_var (pv 11)) (a_cons (d_var (pv 3)) (a_nil)))))))))) (b_one (s_ret (d_bl))) (b_nil)))) (b_cons (s_set o.nd (d_tup1 o rfl (Z_tuple kin gn c) (d_sorted2 o rfl (Z_sorted kin gn c) (d_lst (a_cons (d_var (pv 0)) (a_cons (d_var (pv 1)) (a_nil))))))) (b_cons (s_if (DW.t (w_or (t_notN (d_callF ok_ring o (G_ring kin gn c) (a_cons (d_var (pv 4)) (a_cons (d_tup (a_nil)) (a_cons (d_var (pv 12)) (a_cons (d_var (pv 3)) (a_nil))))))) (w_one_or (t_neE o (d_callF ok_ranks o (G_ranks kin gn c) (a_cons (d_var (pv 4)) (a_cons (d_tup (a_nil)) (a_cons (d_var (pv 12)) (a_cons (d_var (pv 3)) (a_nil)))))) (d_disp o (p_cons (d_var (pv 0)) (d_int) (p_cons (d_var (pv 1)) (d_int) (p_cons (d_var (pv 2)) (d_int) (p_nil))))))))) (b_one (s_ret (d_bl))) (b_nil)) (b_one (s_ret (d_and (d_eqE o (d_callF ok_reached o (G_reached kin gn c) (a_cons (d_var (pv 4)) (a_cons (d_tup (a_nil)) (a_cons (d_var (pv 12)) (a_cons (d_var (pv 3)) (a_cons (d_var (pv 0)) (a_nil))))))) (d_tup (a_cons (d_var (pv 5)) (a_cons (d_bl) (a_cons (d_bl) (a_nil)))))) (d_one (d_isB (d_callF ok_is_sound o (G_is_sound kin gn c) (a_cons (d_var (pv 4)) (a_nil))) (d_bl)))))))))))))
theorem ok__law_pick : Fu g P w mg base 4 "_law_pick" "_law_pick" (top 56) ["draw", "some"] (f__law_pick T) (He.ga g.K "_law_pick") := by
  refine fu_of (N := ["draw", "some"]) sy (c.def_ 45 (d := ⟨("_law_pick", none), "_law_pick", "_law_pick", defArgs (top 56), defBody (top 56), defScope (top 56), [], []⟩) rfl) ⟨rfl, rfl, rfl, by decide +kernel, rfl, by decide +kernel, by decide +kernel⟩ (fun _ _ _ _ _ _ us hl => match us, hl with | [_, _], _ => rfl) fun cdv A outer s H o => ?_
  exact b_one (s_ret (d_idx o (d_var (pv 1)) (d_callF ok__law_take o (G__law_take kin gn c) (a_cons (d_var (pv 0)) (a_cons (d_len' o rfl (Z_len kin gn c) (d_var (pv 1))) (a_nil))))))
theorem ok__law_words : Fu g P w mg base 5 "_law_words" "_law_words" (top 58) ["draw", "count"] (f__law_words T) (He.ga g.K "_law_words") := by
  have ok__law_pick := ok__law_pick (P := P) (w := w) (base := base) kin gn c hcl sy isc gt ok__law_take
  refine fu_of (N := ["draw", "count", "letters", "found", "some", "k", "word", "span", "near", "letter", "j", "uno"]) sy (c.def_ 47 (d := ⟨("_law_words", none), "_law_words", "_law_words", defArgs (top 58), defBody (top 58), defScope (top 58), [], []⟩) rfl) ⟨rfl, rfl, rfl, by decide +kernel, rfl, by decide +kernel, by decide +kernel⟩ (fun _ _ _ _ _ _ us hl => match us, hl with | [_, _], _ => rfl) fun cdv A outer s H o => ?_
  exact b_cons (s_parT rfl (h_cons (d_str) (h_cons (d_lst (a_nil)) (h_nil))) (gs_cons o.nd (gs_cons o.nd (gs_nil)))) (b_cons (s_set o.nd (d_lst (a_cons (d_str) (a_cons (d_str) (a_cons (d_str) (a_cons (d_str) (a_cons (d_str) (a_cons (d_str) (a_cons (d_str) (a_cons (d_str) (a_cons (d_str) (a_cons (d_str) (a_nil))))))))))))) (b_cons (s_for .never rfl (i_range1 rfl (Z_range kin gn c) (d_var (pv 1))) (g_name o.nd) (b_cons (s_set o.nd (d_callF ok__law_pick o (G__law_pick kin gn c) (a_cons (d_var (pv 0)) (a_cons (d_var (pv 4)) (a_nil))))) (b_cons (s_if (t_gtD (d_callF ok__law_take o (G__law_take kin gn c) (a_cons (d_var (pv 0)) (a_cons (d_int) (a_nil)))) (d_int)) (b_cons (s_set o.nd (d_add o (d_int) (d_callF ok__law_take o (G__law_take kin gn c) (a_cons (d_var (pv 0)) (a_cons (d_callF ok__law_pick o (G__law_pick kin gn c) (a_cons (d_var (pv 0)) (a_cons (d_lst (a_cons (d_int) (a_cons (d_int) (a_cons (d_int) (a_nil))))) (a_nil)))) (a_nil)))))) (b_one (s_set o.nd (d_join o (d_str) (d_lc [("j", 10)] o (i_range1 rfl (Z_range kin gn c) (d_var (pv 7))) (blk_of (by kernel_rfl)) (fun _ _ _ _ _ => g_name o.blk.nd) (fun _ _ _ _ _ => c_nil) (fun _ _ _ _ _ => d_callF ok__law_pick o.blk (G__law_pick kin gn c) (a_cons (d_var (pv 0)) (a_cons (d_var (pv 2)) (a_nil))))))))) (b_nil)) (b_cons (s_set o.nd (d_add o (d_lst (a_cons (d_var (pv 6)) (a_nil))) (d_lc [("letter", 9)] o (i_any o (d_var (pv 2))) (blk_of (by kernel_rfl)) (fun _ _ _ _ _ => g_name o.blk.nd) (fun _ _ _ _ _ => c_nil) (fun _ _ _ _ _ => d_add o.blk (d_slice o.blk (d_var (pv 6)) (o_none) (o_some (d_int))) (d_var (pv 9)))))) (b_one (s_expr (d_mL m_app (pe_bm PySem.F.plainAttrs_list PySem.F.slot_list_append PySem.F.type_list_append mt_append (pv 3) (a_cons (d_idx o (d_lc [("uno", 11)] o (i_any o (d_var (pv 8))) (blk_of (by kernel_rfl)) (fun _ _ _ _ _ => g_name o.blk.nd) (fun _ _ _ _ _ => c_one (t_nin o.blk (d_var (pv 11)) (d_var (pv 3)))) (fun _ _ _ _ _ => d_var (pv 11))) (d_int)) (a_nil)))))))))) (b_one (s_ret (d_var (pv 3))))))
end
section
variable {K : PySem.W.Frag} {ad ga ca : Addr} {P : Program} {w : World} {mg : Str → Option Value} {base h : Heap} (kin : K.In h) (gn : h.Ns mainGlobals mg) (c : He.SaysD fa fn K) (sy : ∃ u, base.get? sysModules = some u) (isc : exB K = true) (gt : GetsD gts K)
include kin gn c sy isc gt
theorem ok_blend : Fu (gD K (clsOf K) ad ga ca) P w mg base 1 "_law_blend" "_law_blend" (top 55) ["draw"] (f_blend) (He.ga K "_law_blend") := by
  refine fu_of (g := gD K (clsOf K) ad ga ca) (N := ["draw", "turn", "found", "prime", "blend", "cell"]) sy (c.def_ 44 (d := ⟨("_law_blend", none), "_law_blend", "_law_blend", defArgs (top 55), defBody (top 55), defScope (top 55), [], []⟩) rfl) ⟨rfl, rfl, rfl, by decide +kernel, rfl, by decide +kernel, by decide +kernel⟩ (fun _ _ _ _ _ _ us hl => match us, hl with | [_], _ => rfl) fun cdv A outer s H o => ?_
  have o0 : XO (g0 K (clsOf K)) _ _ := ⟨o.K, o.rm, o.calm, o.nd, o.gd, o.sy⟩
  have c : He.SaysD fa fn (g0 K (clsOf K)).K := c
  have kin : (g0 K (clsOf K)).K.In h := kin
  exact b_cons (s_set o.nd (d_add o (r_get o (pv 0) (fun _ => rfl)) d_int)) (b_cons (r_put o (pv 0) (d_var (pv 1)) (fun _ _ => ⟨rfl, rfl, rfl⟩)) (b_frz (b_cons (s_set o0.nd (d_int)) (b_cons (s_for .never rfl (i_any o0 (d_lst (a_cons (d_int) (a_cons (d_int) (a_cons (d_int) (a_cons (d_int) (a_nil))))))) (g_name o0.nd) (b_cons (s_set o0.nd (d_mod (d_int1 rfl (Z_int kin gn c) (d_add o0 (d_mul (d_var (pv 1)) (d_int)) (d_div (d_var (pv 3)) (d_int)))) (d_var (pv 3)))) (b_cons (s_for .never rfl (i_any o0 (d_idx o0 (d_var (pv 0)) (d_str))) (g_name o0.nd) (b_one (s_set o0.nd (d_mod (d_int1 rfl (Z_int kin gn c) (d_add o0 (d_mul (d_var (pv 4)) (d_int)) (d_var (pv 5)))) (d_var (pv 3)))))) (b_one (s_set o0.nd (d_add o0 (d_mul (d_var (pv 2)) (d_int)) (d_mod (d_int1 rfl (Z_int kin gn c) (d_pow (d_var (pv 4)) (d_int))) (d_var (pv 3))))))))) (b_one (s_ret (d_var (pv 2))))))))
theorem ok_take : Fu (gD K (clsOf K) ad ga ca) P w mg base 2 "_law_take" "_law_take" (top 57) ["draw", "size"] (f_take (decide (ga = ca))) (He.ga K "_law_take") := by
  have ok_blend := ok_blend (P := P) (w := w) (base := base) (ad := ad) (ga := ga) (ca := ca) kin gn c sy isc gt
  refine fu_of (g := gD K (clsOf K) ad ga ca) (N := ["draw", "size", "found"]) sy (c.def_ 46 (d := ⟨("_law_take", none), "_law_take", "_law_take", defArgs (top 57), defBody (top 57), defScope (top 57), [], []⟩) rfl) ⟨rfl, rfl, rfl, by decide +kernel, rfl, by decide +kernel, by decide +kernel⟩ (fun _ _ _ _ _ _ us hl => match us, hl with | [_, _], _ => rfl) fun cdv A outer s H o => ?_
  exact b_cons (s_if (DW.t (w_and (t_eq o (r_get o (pv 0) (fun _ => rfl)) d_int) (w_one_and (r_great o (pv 0))))) (b_one (r_put o (pv 0) (r_pop o (pv 0)) (fun _ _ => ⟨rfl, rfl, rfl⟩))) b_nil) (b_cons (s_if (t_eq o (r_get o (pv 0) (fun _ => rfl)) d_int) (b_one (r_put o (pv 0) (d_callF ok_blend o (G__law_blend (g := gD K (clsOf K) ad ga ca) kin gn c) (a_cons (d_var (pv 0)) a_nil)) (fun _ _ => ⟨rfl, rfl, rfl⟩))) b_nil) (b_cons (s_set o.nd (d_mod (d_int1 rfl (Z_int (g := gD K (clsOf K) ad ga ca) kin gn c) (r_get o (pv 0) (fun _ => rfl))) (d_var (pv 1)))) (b_cons (r_put o (pv 0) (d_div (r_get o (pv 0) (fun _ => rfl)) (d_var (pv 1))) (fun _ _ => ⟨rfl, rfl, rfl⟩)) (b_one (s_ret (d_var (pv 2)))))))
theorem ok_law (h1 : ∀ ns : List Int, ns.length ≤ 63 → ∃ r, m_begin1 ⟨lawE 6 ns none, ()⟩ = some (.nx, ⟨lawE 6 ns (some ⟨drD r, true⟩), ()⟩))
    (h2 : ∀ (ns : List Int) (b : Bool) (r : Dr), ns.length ≤ 63 → ∃ s', m_law_k15 (f_take b) ⟨lawE 6 ns (some ⟨.res, false⟩), r⟩ = some (.rt (.sh (.bl true)), s')) {fd : FuncData} (F : FnP K "law" "law" (top 62) (He.ga K "law") fd) : FnG P w K mg base 8 (He.ga K "law") fd ["script"] (spLaw K 63) := by
  have ok__law_begin := ok__law_begin (g := g0 K (clsOf K)) (P := P) (w := w) (base := base) (T := fun _ _ => none) kin gn c rfl sy isc gt
  refine law_ok (cls := clsOf K) (xd := "draw") (m1 := m_begin1) (m2 := fun b => m_law_k15 (f_take b)) (N2 := ["turn", "a", "b", "c", "end", "other"]) sy F ⟨rfl, rfl, rfl, by decide +kernel, rfl, by decide +kernel, by decide +kernel⟩ rfl (fun cdv A outer s H o => ?_) (fun ad ga ca cdv A outer s H o => ?_) h1 h2
  · exact s_set o.nd (d_callF ok__law_begin o (G__law_begin (g := g0 K (clsOf K)) kin gn c) (a_cons (d_var (pv 0)) a_nil))
  · have ok__law_take := (ok_take (P := P) (w := w) (base := base) (ad := ad) (ga := ga) (ca := ca) kin gn c sy isc gt).mono (by decide : 2 ≤ 3)
    have hcl : (gD K (clsOf K) ad ga ca).cls = clsOf (gD K (clsOf K) ad ga ca).K := rfl
    have c : He.SaysD fa fn (gD K (clsOf K) ad ga ca).K := c
    have kin : (gD K (clsOf K) ad ga ca).K.In h := kin
    have ok__law_goals_right := ok__law_goals_right (g := gD K (clsOf K) ad ga ca) (P := P) (w := w) (base := base) kin gn c hcl sy isc gt ok__law_take
    have ok__law_pair_right := ok__law_pair_right (g := gD K (clsOf K) ad ga ca) (P := P) (w := w) (base := base) kin gn c hcl sy isc gt ok__law_take
    have ok__law_three_right := ok__law_three_right (g := gD K (clsOf K) ad ga ca) (P := P) (w := w) (base := base) kin gn c hcl sy isc gt ok__law_take
    have ok__law_words := ok__law_words (g := gD K (clsOf K) ad ga ca) (P := P) (w := w) (base := base) kin gn c hcl sy isc gt ok__law_take
    exact b_cons (s_for .never rfl (i_range1 rfl (Z_range kin gn c) (d_add o (d_int) (d_min2 o rfl (Z_min kin gn c) (d_len' o rfl (Z_len kin gn c) (d_var (pv 0))) (d_int)))) (g_name o.nd) (b_cons (s_unp (d_callF ok__law_words o (G__law_words kin gn c) (a_cons (d_var (pv 1)) (a_cons (d_int) (a_nil)))) (g_tup o (ts_cons (g_name o.nd) (ts_cons (g_name o.nd) (ts_cons (g_name o.nd) (ts_cons (g_name o.nd) (ts_cons (g_name o.nd) (ts_nil)))))))) (b_cons (s_if (DW.t (w_or (t_not (t_val (d_callF ok__law_pair_right o (G__law_pair_right kin gn c) (a_cons (d_var (pv 3)) (a_cons (d_var (pv 4)) (a_cons (d_var (pv 6)) (a_nil))))))) (w_one_or (t_not (t_val (d_callF ok__law_three_right o (G__law_three_right kin gn c) (a_cons (d_var (pv 3)) (a_cons (d_var (pv 4)) (a_cons (d_var (pv 5)) (a_cons (d_var (pv 6)) (a_nil))))))))))) (b_one (s_ret (d_bl))) (b_nil)) (b_one (s_if (t_not (t_val (d_callF ok__law_goals_right o (G__law_goals_right kin gn c) (a_cons (d_var (pv 3)) (a_cons (d_var (pv 4)) (a_cons (d_var (pv 6)) (a_cons (d_var (pv 7)) (a_nil)))))))) (b_one (s_ret (d_bl))) (b_nil)))))) (b_one (s_ret (d_bl)))
end
end RW
namespace RW
open PySem L2
@[simp] theorem gt_int (i j : Int) : gtD (.int i) (.int j) = some (.sh (.bl (decide (j < i)))) := rfl
/-! ### tools: loops by what holds between the turns -/
section
variable {R : Type}
/-- it gives something of which Q holds -/
def Ev {α β : Type} (x : Option (α × β)) (Q : α → β → Prop) : Prop := ∃ a b, x = some (a, b) ∧ Q a b
@[simp] theorem Ev_some {α β : Type} {a : α} {b : β} {Q : α → β → Prop} : Ev (some (a, b)) Q ↔ Q a b :=
  ⟨fun ⟨_, _, e, q⟩ => by cases e; exact q, fun q => ⟨a, b, rfl, q⟩⟩
@[simp] theorem Ev_none {α β : Type} {Q : α → β → Prop} : Ev (none : Option (α × β)) Q ↔ False := ⟨fun ⟨_, _, e, _⟩ => (by cases e), fun z => z.elim⟩
@[simp] theorem Ev_bind {α β γ δ : Type} {x : Option (α × β)} {f : α × β → Option (γ × δ)} {Q : γ → δ → Prop} : Ev (x.bind f) Q ↔ Ev x (fun a b => Ev (f (a, b)) Q) := by
  constructor
  · rintro ⟨c, d, e, q⟩
    obtain ⟨⟨a, b⟩, e1, e2⟩ := Option.bind_eq_some_iff.mp e
    exact ⟨a, b, e1, c, d, e2, q⟩
  · rintro ⟨a, b, e1, c, d, e2, q⟩
    exact ⟨c, d, by rw [e1]; exact e2, q⟩
@[simp] theorem Ev_map {α β γ δ : Type} {x : Option (α × β)} {f : α × β → γ × δ} {Q : γ → δ → Prop} : Ev (x.map f) Q ↔ Ev x (fun a b => Q (f (a, b)).1 (f (a, b)).2) := by
  constructor
  · rintro ⟨c, d, e, q⟩
    obtain ⟨⟨a, b⟩, e1, e2⟩ := Option.map_eq_some_iff.mp e
    exact ⟨a, b, e1, by show Q (f (a, b)).1 (f (a, b)).2; rw [e2]; exact q⟩
  · rintro ⟨a, b, e1, q⟩
    exact ⟨_, _, by rw [e1]; rfl, q⟩
theorem Ev.mono {α β : Type} {x : Option (α × β)} {Q Q' : α → β → Prop} (h : Ev x Q) (w : ∀ a b, Q a b → Q' a b) : Ev x Q' := by
  obtain ⟨a, b, e, q⟩ := h
  exact ⟨a, b, e, w a b q⟩
theorem for_ev {T : Tg} {mb : MS R} (I : List D → S R → Prop) (Q : Fl → S R → Prop)
    (h : ∀ d ds s, I (d :: ds) s → match bindT T d s.e with
      | some e' => Ev (mb { s with e := e' }) (fun fl s' => match fl with
        | .nx => I ds s'
        | .ct => I ds s'
        | .bk => Q .nx s'
        | .rt v => Q (.rt v) s')
      | none => False)
    (h0 : ∀ s, I [] s → Q .nx s) : ∀ (ds : List D) (s : S R), I ds s → Ev (forL T mb ds s) Q := by
  intro ds
  induction ds with
  | nil => exact fun s hs => ⟨.nx, s, rfl, h0 s hs⟩
  | cons d ds ih =>
    intro s hs
    have q := h d ds s hs
    split at q
    · rename_i e' e1
      obtain ⟨fl, s', e2, q⟩ := q
      cases fl with
      | nx =>
        obtain ⟨fl', s2, e3, q2⟩ := ih s' q
        exact ⟨fl', s2, by simp [forL, e1, e2, e3], q2⟩
      | ct =>
        obtain ⟨fl', s2, e3, q2⟩ := ih s' q
        exact ⟨fl', s2, by simp [forL, e1, e2, e3], q2⟩
      | bk => exact ⟨.nx, s', by simp [forL, e1, e2], q⟩
      | rt v => exact ⟨.rt v, s', by simp [forL, e1, e2], q⟩
    · exact q.elim
theorem mFor_ev {T : Tg} {mb : MS R} {mi : M R (List D)} {ds : List D} {s s1 : S R} {Q : Fl → S R → Prop} (hi : mi s = some (ds, s1)) (h : Ev (forL T mb ds s1) Q) : Ev (mFor mi T mb s) Q := by
  obtain ⟨a, b, e, q⟩ := h
  exact ⟨a, b, by simp [mFor, hi, e], q⟩
theorem wh_ev {mc : M R Vr} {mb : MS R} (I : Nat → S R → Prop) (Q : Fl → S R → Prop)
    (h : ∀ n s, I n s → Ev (mc s) (fun v s1 => match v with
      | .sh (.bl false) => Q .nx s1
      | .sh (.bl true) => Ev (mb s1) (fun fl s2 => match fl with
        | .nx => ∃ m, m < n ∧ I m s2
        | .ct => ∃ m, m < n ∧ I m s2
        | .bk => Q .nx s2
        | .rt v => Q (.rt v) s2)
      | _ => False)) : ∀ (fuel n : Nat) (s : S R), n < fuel → I n s → Ev (whL mc mb fuel s) Q := by
  intro fuel
  induction fuel with
  | zero => exact fun n s hn _ => absurd hn (Nat.not_lt_zero _)
  | succ k ih =>
    intro n s hn hs
    obtain ⟨v, s1, e1, q⟩ := h n s hs
    split at q
    · exact ⟨.nx, s1, by simp [whL, e1], q⟩
    · obtain ⟨fl, s2, e2, q⟩ := q
      cases fl with
      | nx =>
        obtain ⟨m, hm, q⟩ := q
        obtain ⟨fl', s3, e3, q2⟩ := ih m s2 (by omega) q
        exact ⟨fl', s3, by simp [whL, e1, e2, e3], q2⟩
      | ct =>
        obtain ⟨m, hm, q⟩ := q
        obtain ⟨fl', s3, e3, q2⟩ := ih m s2 (by omega) q
        exact ⟨fl', s3, by simp [whL, e1, e2, e3], q2⟩
      | bk => exact ⟨.nx, s2, by simp [whL, e1, e2], q⟩
      | rt v => exact ⟨.rt v, s2, by simp [whL, e1, e2], q⟩
    · exact q.elim
theorem lt_wfuel {n : Nat} (h : n < 1000) : n < wfuel := by unfold wfuel; omega
/-- a comprehension without draws -/
theorem lc_enc {α : Type} {vs : List Nat} {T : Tg} {mt me : M R Vr} (enc : α → D) (p : α → Bool) (f : α → D) {s : S R} : ∀ (xs : List α) (acc : List D), plainAt s.e vs = true →
    (∀ x ∈ xs, match bindT T (enc x) (wipeE s.e vs) with
      | some e' => backE s.e e' vs = s.e ∧ mt { s with e := e' } = some (.sh (.bl (p x)), { s with e := e' }) ∧ (p x = true → Ev (me { s with e := e' }) (fun v s2 => s2 = { s with e := e' } ∧ esc (soft v) { s with e := e' } = some (f x, { s with e := e' })))
      | none => False) →
    acc.length + xs.length ≤ sizeLine → lcL vs T mt me (xs.map enc) acc s = some (acc ++ (xs.filter p).map f, s)
  | [], acc, _, _, _ => by simp [lcL]
  | x :: xs, acc, hp, h, hl => by
    have ht := fun x hx => h x (List.mem_cons_of_mem _ hx)
    simp only [List.length_cons] at hl
    have q := h x List.mem_cons_self
    split at q
    · rename_i e' e1
      obtain ⟨e2, e3, e4⟩ := q
      cases hd : p x with
      | false =>
        rw [hd] at e3
        have := lc_enc enc p f xs acc hp ht (by omega)
        simp [lcL, hp, e1, e3, e2, this, hd]
      | true =>
        rw [hd] at e3
        obtain ⟨v, s2, e5, rfl, e6⟩ := e4 hd
        have := lc_enc enc p f xs (acc ++ [f x]) hp ht (by simp; omega)
        simp [lcL, hp, e1, e3, e5, e6, e2, this, hd]
        omega
    · exact q.elim
theorem mLc_enc {α : Type} {vs : List Nat} {mi : M R (List D)} {T : Tg} {mt me : M R Vr} (enc : α → D) (p : α → Bool) (f : α → D) (xs : List α) {s s1 : S R} (hi : mi s = some (xs.map enc, s1)) (hp : plainAt s1.e vs = true)
    (h : ∀ x ∈ xs, match bindT T (enc x) (wipeE s1.e vs) with
      | some e' => backE s1.e e' vs = s1.e ∧ mt { s1 with e := e' } = some (.sh (.bl (p x)), { s1 with e := e' }) ∧ (p x = true → Ev (me { s1 with e := e' }) (fun v s2 => s2 = { s1 with e := e' } ∧ esc (soft v) { s1 with e := e' } = some (f x, { s1 with e := e' })))
      | none => False) (hl : xs.length ≤ sizeLine) : mLc vs mi T mt me s = some (.tmp (.lst ((xs.filter p).map f)), s1) := by
  simp [mLc, hi, lc_enc enc p f xs [] hp h (by simpa using hl)]
/-- .. all of them -/
theorem mLc_all {α : Type} {vs : List Nat} {mi : M R (List D)} {T : Tg} {me : M R Vr} (enc : α → D) (f : α → D) (xs : List α) {s s1 : S R} (hi : mi s = some (xs.map enc, s1)) (hp : plainAt s1.e vs = true)
    (h : ∀ x ∈ xs, match bindT T (enc x) (wipeE s1.e vs) with
      | some e' => backE s1.e e' vs = s1.e ∧ Ev (me { s1 with e := e' }) (fun v s2 => s2 = { s1 with e := e' } ∧ esc (soft v) { s1 with e := e' } = some (f x, { s1 with e := e' }))
      | none => False) (hl : xs.length ≤ sizeLine) : mLc vs mi T (mC (.bl true)) me s = some (.tmp (.lst (xs.map f)), s1) := by
  have := mLc_enc (mt := mC (.bl true)) (me := me) (T := T) (vs := vs) enc (fun _ => true) f xs hi hp (fun x hx => by
    have q := h x hx
    split at q
    · exact ⟨q.1, rfl, fun _ => q.2⟩
    · exact q.elim) hl
  rw [this, List.filter_eq_self.mpr (fun _ _ => rfl)]
/-- a comprehension that may draw: what holds between the turns, over what is left and what is made -/
theorem lc_ev {vs : List Nat} {T : Tg} {mt me : M R Vr} (I : List D → List D → S R → Prop)
    (h : ∀ d ds acc s, I (d :: ds) acc s → plainAt s.e vs = true ∧ match bindT T d (wipeE s.e vs) with
      | some e' => Ev (mt { s with e := e' }) (fun v s1 => match v with
        | .sh (.bl false) => I ds acc { s1 with e := backE s.e s1.e vs }
        | .sh (.bl true) => Ev (me s1) (fun v s2 => Ev (esc (soft v) s2) (fun z s3 => acc.length < sizeLine ∧ I ds (acc ++ [z]) { s3 with e := backE s.e s3.e vs }))
        | _ => False)
      | none => False) :
    ∀ (ds acc : List D) (s : S R), I ds acc s → Ev (lcL vs T mt me ds acc s) (fun zs s' => I [] zs s')
  | [], acc, s, hs => ⟨acc, s, rfl, hs⟩
  | d :: ds, acc, s, hs => by
    obtain ⟨hp, q⟩ := h d ds acc s hs
    split at q
    · rename_i e' e1
      obtain ⟨v, s1, e2, q⟩ := q
      split at q
      · obtain ⟨zs, s', e5, q⟩ := lc_ev I h ds acc _ q
        exact ⟨zs, s', by simp [lcL, hp, e1, e2, e5], q⟩
      · obtain ⟨v, s2, e3, z, s3, e4, hl, q⟩ := q
        obtain ⟨zs, s', e5, q⟩ := lc_ev I h ds (acc ++ [z]) _ q
        exact ⟨zs, s', by simp [lcL, hp, e1, e2, e3, e4, hl, e5], q⟩
      · exact q.elim
    · exact q.elim
/-- a dict by a comprehension, without draws; new keys that are texts -/
theorem dc_enc {α : Type} {vs : List Nat} {T : Tg} {mk mv : M R Vr} (enc : α → D) (k : α → Str) (f : α → D) {s : S R} : ∀ (xs : List α) (acc : List (D × D)), plainAt s.e vs = true →
    (∀ x ∈ xs, match bindT T (enc x) (wipeE s.e vs) with
      | some e' => backE s.e e' vs = s.e ∧ Ev (mk { s with e := e' }) (fun v s2 => s2 = { s with e := e' } ∧ esc (soft v) { s with e := e' } = some (.str (k x), { s with e := e' })) ∧
        Ev (mv { s with e := e' }) (fun v s2 => s2 = { s with e := e' } ∧ esc (soft v) { s with e := e' } = some (f x, { s with e := e' }))
      | none => False) →
    acc.length + xs.length ≤ sizeLine → (∀ x ∈ xs, ∀ p ∈ acc, keq p.1 (.str (k x)) = false) → (xs.map k).Nodup → dcL vs T (mC (.bl true)) mk mv (xs.map enc) acc s = some (acc ++ xs.map fun x => (.str (k x), f x), s)
  | [], acc, _, _, _, _, _ => by simp [dcL]
  | x :: xs, acc, hp, h, hl, hk, hn => by
    have ht := fun d hd => h d (List.mem_cons_of_mem _ hd)
    simp only [List.length_cons] at hl
    rw [List.map_cons, List.nodup_cons] at hn
    have q := h x List.mem_cons_self
    split at q
    · rename_i e' e1
      obtain ⟨e2, ⟨v, s2, e3, rfl, e4⟩, w, s3, e5, rfl, e6⟩ := q
      have hput : putE acc (.str (k x)) (f x) = acc ++ [(.str (k x), f x)] := by
        unfold putE
        rw [if_neg]
        intro z
        obtain ⟨p, hp, z⟩ := List.any_eq_true.mp z
        rw [hk x List.mem_cons_self p hp] at z; cases z
      have := dc_enc enc k f xs (acc ++ [(.str (k x), f x)]) hp ht (by simp; omega) (fun d' hd' p hp' => by
        rcases List.mem_append.mp hp' with z | z
        · exact hk d' (List.mem_cons_of_mem _ hd') p z
        · have : p = (.str (k x), f x) := by simpa using z
          subst this
          have ne : k x ≠ k d' := fun z => hn.1 (by rw [z]; exact List.mem_map_of_mem hd')
          simpa [keq] using ne) hn.2
      simp [dcL, hp, e1, mC, e3, e4, kOf, keyD, e5, e6, e2, hput, this]
      omega
    · exact q.elim
theorem mDc_enc {α : Type} {vs : List Nat} {mi : M R (List D)} {T : Tg} {mk mv : M R Vr} (enc : α → D) (k : α → Str) (f : α → D) (xs : List α) {s s1 : S R} (hi : mi s = some (xs.map enc, s1)) (hp : plainAt s1.e vs = true)
    (h : ∀ x ∈ xs, match bindT T (enc x) (wipeE s1.e vs) with
      | some e' => backE s1.e e' vs = s1.e ∧ Ev (mk { s1 with e := e' }) (fun v s2 => s2 = { s1 with e := e' } ∧ esc (soft v) { s1 with e := e' } = some (.str (k x), { s1 with e := e' })) ∧
        Ev (mv { s1 with e := e' }) (fun v s2 => s2 = { s1 with e := e' } ∧ esc (soft v) { s1 with e := e' } = some (f x, { s1 with e := e' }))
      | none => False) (hl : xs.length ≤ sizeLine) (hn : (xs.map k).Nodup) : mDc vs mi T (mC (.bl true)) mk mv s = some (.tmp (.dct false (xs.map fun x => (.str (k x), f x))), s1) := by
  simp [mDc, hi, dc_enc enc k f xs [] hp h (by simpa using hl) (fun _ _ _ z => nomatch z) hn]
end
end RW
namespace RW
open PySem L2
/-! ### data -/
def dS (xs : List Str) : List D := xs.map D.str
theorem dS_length (xs : List Str) : (dS xs).length = xs.length := List.length_map ..
theorem str_beq (x y : Str) : (x == y) = decide (x = y) := by
  by_cases h : x = y
  · subst h; simp
  · rw [decide_eq_false h]; exact beq_eq_false_iff_ne.mpr h
theorem atI_nat' {α : Type} {xs : List α} {k : Nat} (h : k < xs.length) : atI xs (k : Int) = some xs[k] := by
  unfold atI ixN
  rw [if_pos (by omega), if_pos (by omega)]
  simp [h]
theorem deq_str (x y : Str) : deqF 60 (.str x) (.str y) = some (decide (x = y)) := by
  simp [deqF, toV, eqV, str_beq]
theorem ne_str (x y : Str) : neD (.str x) (.str y) = some (.sh (.bl (!decide (x = y)))) := by
  simp [neD, deq_str]
theorem eq_str (x y : Str) : eqD (.str x) (.str y) = some (.sh (.bl (decide (x = y)))) := by
  simp [eqD, deq_str]
theorem deq_int (x y : Int) : deqF 60 (.int x) (.int y) = some (decide (x = y)) := by
  simp only [deqF, toV, eqV]
  by_cases h : x = y
  · simp [h]
  · simp [h]
theorem eq_int' (x y : Int) : eqD (.int x) (.int y) = some (.sh (.bl (decide (x = y)))) := by simp [eqD, deq_int]
theorem ne_int' (x y : Int) : neD (.int x) (.int y) = some (.sh (.bl (!decide (x = y)))) := by simp [neD, deq_int]
/-- a place: a name or None -/
def dO : Option Str → D
  | some x => .str x
  | none => .non
theorem deq_dO (x y : Option Str) : deqF 60 (dO x) (dO y) = some (decide (x = y)) := by
  cases x <;> cases y <;> simp [deqF, dO, toV, eqV, str_beq]
theorem ne_dO (x y : Option Str) : neD (dO x) (dO y) = some (.sh (.bl (!decide (x = y)))) := by simp [neD, deq_dO]
theorem eq_dO (x y : Option Str) : eqD (dO x) (dO y) = some (.sh (.bl (decide (x = y)))) := by simp [eqD, deq_dO]
theorem strsOf_dS : ∀ xs : List Str, strsOf (dS xs) = some xs
  | [] => rfl
  | x :: xs => by
    show (strsOf (dS xs)).map (fun xs => x :: xs) = _
    rw [strsOf_dS xs]; rfl
theorem toVs_dS : ∀ xs : List Str, toVs (dS xs) = some (xs.map V.str)
  | [] => rfl
  | x :: xs => by
    show (toV (.str x)).bind (fun v => (toVs (dS xs)).map fun vs => v :: vs) = _
    rw [toVs_dS xs]; rfl
theorem inV_dS (x : Str) (xs : List Str) : inV (.str x) (xs.map V.str) = decide (x ∈ xs) := by
  unfold inV
  induction xs with
  | nil => rfl
  | cons y ys ih =>
    rw [List.map_cons, List.any_cons, ih]
    by_cases h : x = y
    · subst h; simp [eqV]
    · simp [eqV, h, beq_eq_false_iff_ne.mpr (Ne.symm h)]
theorem in_lst (x : Str) (xs : List Str) : inB (.str x) (.lst (dS xs)) = some (decide (x ∈ xs)) := by
  simp [inB, toV, toVs_dS, inV_dS]
theorem in_tup (x : Str) (xs : List Str) : inB (.str x) (.tup (dS xs)) = some (decide (x ∈ xs)) := by
  simp [inB, toV, toVs_dS, inV_dS]
theorem boolsOf_map : ∀ bs : List Bool, boolsOf (bs.map D.bl) = some bs
  | [] => rfl
  | b :: bs => by
    show (boolsOf (bs.map D.bl)).map (fun bs => b :: bs) = _
    rw [boolsOf_map bs]; rfl
theorem all_bl (bs : List Bool) : allD (.lst (bs.map D.bl)) = some (.sh (.bl (bs.all id))) := by simp [allD, boolsOf_map]
theorem any_bl (bs : List Bool) : anyD (.lst (bs.map D.bl)) = some (.sh (.bl (bs.any id))) := by simp [anyD, boolsOf_map]
/-- a dict with texts as keys -/
def dT {α : Type} (f : α → D) (t : List (Str × α)) : D := .dct false (t.map fun p => (.str p.1, f p.2))
theorem get_dT {α : Type} (f : α → D) (k : Str) : ∀ t : List (Str × α), getE (t.map fun p => (D.str p.1, f p.2)) (.str k) = (t.lookup k).map f
  | [] => rfl
  | (x, y) :: t => by
    unfold getE
    rw [List.map_cons, List.find?_cons, List.lookup_cons]
    show (match decide (x = k) with | true => some _ | false => _).map _ = _
    by_cases h : x = k
    · subst h; simp
    · rw [decide_eq_false h, beq_eq_false_iff_ne.mpr (Ne.symm h)]
      exact get_dT f k t
theorem look_some {α : Type} {k : Str} : ∀ {t : List (Str × α)}, k ∈ t.map (·.1) ↔ (t.lookup k).isSome = true
  | [] => by simp
  | (x, y) :: t => by
    rw [List.map_cons, List.mem_cons, List.lookup_cons]
    by_cases h : k = x
    · subst h; simp
    · rw [beq_eq_false_iff_ne.mpr h]
      simp only [h, false_or]
      exact look_some
theorem in_dT {α : Type} (f : α → D) (k : Str) (t : List (Str × α)) : inB (.str k) (dT f t) = some (decide (k ∈ t.map (·.1))) := by
  unfold dT
  simp only [inB, get_dT, Option.isSome_map]
  by_cases h : k ∈ t.map (·.1)
  · rw [look_some.mp h, decide_eq_true h]
  · rw [decide_eq_false h]
    cases q : (t.lookup k).isSome with
    | false => rfl
    | true => exact absurd (look_some.mpr q) h
theorem in_dTO {α : Type} (f : α → D) (k : Option Str) (t : List (Str × α)) : inB (dO k) (dT f t) = some (match k with | some k => decide (k ∈ t.map (·.1)) | none => false) := by
  cases k with
  | none => rfl
  | some k => exact in_dT f k t
theorem idx_dT {α : Type} (f : α → D) {k : Str} {t : List (Str × α)} {y : α} (h : t.lookup k = some y) : idxD (dT f t) (.str k) = some (.sh (f y)) := by
  unfold dT idxD
  simp [idxK, kOf, keyD, get_dT, h]
theorem len_dT {α : Type} (f : α → D) (t : List (Str × α)) : lenD (dT f t) = some (.sh (.int t.length)) := by simp [dT, lenD]
theorem keysStr_dT {α : Type} (f : α → D) : ∀ t : List (Str × α), keysStr (t.map fun p => (D.str p.1, f p.2)) = some (t.map (·.1))
  | [] => rfl
  | (x, y) :: t => by
    show (keysStr (t.map fun p => (D.str p.1, f p.2))).map (fun xs => x :: xs) = _
    rw [keysStr_dT f t]; rfl
theorem items_dT {α : Type} (f : α → D) (t : List (Str × α)) : itemsOf (dT f t) = some (dS (t.map (·.1))) := by
  simp [dT, itemsOf, dS]
/-- an entry put -/
def putT {α : Type} (t : List (Str × α)) (k : Str) (y : α) : List (Str × α) := if k ∈ t.map (·.1) then t.map (fun p => if p.1 = k then (p.1, y) else p) else t ++ [(k, y)]
theorem put_dT {α : Type} (f : α → D) (t : List (Str × α)) (k : Str) (y : α) : putE (t.map fun p => (D.str p.1, f p.2)) (.str k) (f y) = (putT t k y).map fun p => (D.str p.1, f p.2) := by
  unfold putE putT
  have e : ((t.map fun p => (D.str p.1, f p.2)).any fun p => keq p.1 (.str k)) = decide (k ∈ t.map (·.1)) := by
    induction t with
    | nil => rfl
    | cons p t ih =>
      rw [List.map_cons, List.any_cons, ih, List.map_cons]
      show (decide (p.1 = k) || _) = _
      by_cases h : p.1 = k
      · simp [h]
      · simp [h, Ne.symm h]
  rw [e]
  by_cases h : k ∈ t.map (·.1)
  · rw [if_pos (decide_eq_true h), if_pos h, List.map_map, List.map_map]
    apply List.map_congr_left
    intro p hp
    show (if decide (p.1 = k) = true then _ else _) = _
    by_cases hk : p.1 = k
    · simp [hk]
    · simp [hk]
  · rw [if_neg (by simpa using h), if_neg h, List.map_append]; rfl
theorem putD_dT {α : Type} (f : α → D) (t : List (Str × α)) (k : Str) (y : α) (h : t.length < sizeLine) : putD (dT f t) (.str k) (f y) = some (dT f (putT t k y)) := by
  unfold dT
  simp [putD, kOf, h, keyD, put_dT]
theorem putT_new {α : Type} {t : List (Str × α)} {k : Str} {y : α} (h : k ∉ t.map (·.1)) : putT t k y = t ++ [(k, y)] := if_neg h
/-- what draws tell -/
def Draws {R : Type} (T : Fm R) : Prop := ∀ (r : R) (n : Int), 0 < n → n < 1073741824 → ∃ (k : Nat) (r' : R), (k : Int) < n ∧ T [.res, .int n] r = some (.sh (.int k), r')
section
variable {R : Type} {T : Fm R}
theorem pick_ok (hT : Draws T) (xs : List D) (h : 0 < xs.length) (h2 : xs.length < 1073741824) (r : R) : ∃ d r', d ∈ xs ∧ f__law_pick T [.res, .lst xs] r = some (.sh d, r') := by
  obtain ⟨k, r', hk, e⟩ := hT r xs.length (by omega) (by omega)
  have hk : k < xs.length := by omega
  refine ⟨xs[k], r', List.getElem_mem _, ?_⟩
  simp [f__law_pick, m__law_pick, fnM, fnR, ent, mSeq, mSet, mV, mC, mOp1, mOp2, mChain, mAnd, mOr, mNot, mIf, mArgs, escAll, esc, soft, pk, hard, put, puts, mHards, mPar, mTup, mLst, mDct0, mCall, mRest, mRt, mRtN, mNx, mEx, mIte, mMut, mPut, mIt, bindT, bindTs, isAtom, isLst, isDK, plainAt, wipeE, backE, mFor, mLc, mDc, mWhile, mBk, mCt, mNo, mSl, mNoP, mPt, mJoin, mRng1, mRng2, mZip, mCallK, pickL, mMeth, mProp, mMake, mFld, fnI, fnIR, mDisp, mPairs, o2I, gtI, geI, leI, mStar, mStarT, mStarL, mAugI, mIndex, lenD, idxD, idxS, e, atI_nat' hk]
end
end RW
namespace RW
open PySem L2
/-! ### names -/
def lets : List Nat := [97, 98, 99, 100, 101, 102, 103, 104, 105, 106, 107, 108, 109, 110, 111, 112, 113, 114, 115, 116, 117, 118, 119, 120, 121, 122]
theorem lets_eq : ("abcdefghijklmnopqrstuvwxyz" : Str).cps.toList = lets := by decide
def isName (x : Str) : Prop := 1 ≤ x.cps.size ∧ x.cps.size ≤ 6 ∧ ∀ c ∈ x.cps.toList, c ∈ lets
def ch (c : Nat) : Str := ⟨#[c]⟩
theorem app_cps (x y : Str) : (x ++ y).cps.toList = x.cps.toList ++ y.cps.toList := Array.toList_append
theorem size_eq (x : Str) : x.cps.size = x.cps.toList.length := Array.length_toList.symm
def cut5 (w : Str) : Str := cutS w none (some 5)
theorem cut5_cps (w : Str) : (cut5 w).cps.toList = w.cps.toList.take 5 := by
  have e : HT.sIx w.length w.length (some 5) = min 5 w.length := by
    have := HT.sIx_nat w.length w.length 5
    simpa using this
  unfold cut5 cutS
  rw [e]
  show List.take (min 5 w.length - 0) (List.drop 0 w.cps.toList) = _
  rw [List.drop_zero, Nat.sub_zero]
  show List.take (min 5 w.cps.size) w.cps.toList = _
  rw [size_eq, ← List.take_take, List.take_length]
def nearL (w : Str) : List Str := w :: lets.map fun c => cut5 w ++ ch c
theorem isName_near {w : Str} (h : isName w) : ∀ x ∈ nearL w, isName x := by
  intro x hx
  rcases List.mem_cons.mp hx with rfl | hx
  · exact h
  · obtain ⟨c, hc, rfl⟩ := List.mem_map.mp hx
    have e : (cut5 w ++ ch c).cps.toList = w.cps.toList.take 5 ++ [c] := by rw [app_cps, cut5_cps]; rfl
    refine ⟨?_, ?_, ?_⟩
    · rw [size_eq, e]; simp
    · rw [size_eq, e, List.length_append, List.length_take]; simp; omega
    · rw [e]
      intro d hd
      rcases List.mem_append.mp hd with hd | hd
      · exact h.2.2 d (List.mem_of_mem_take hd)
      · have : d = c := by simpa using hd
        rw [this]; exact hc
theorem sub_len {α : Type} [DecidableEq α] : ∀ {xs ys : List α}, xs.Nodup → (∀ x ∈ xs, x ∈ ys) → xs.length ≤ ys.length
  | [], ys, _, _ => Nat.zero_le _
  | x :: xs, ys, hn, hs => by
    rw [List.nodup_cons] at hn
    have hx := hs x List.mem_cons_self
    have := sub_len (xs := xs) (ys := ys.erase x) hn.2 (fun z hz => by
      have hne : z ≠ x := fun e => hn.1 (e ▸ hz)
      exact (List.mem_erase_of_ne hne).mpr (hs z (List.mem_cons_of_mem _ hz)))
    rw [List.length_erase_of_mem hx] at this
    have : 0 < ys.length := List.length_pos_of_mem hx
    simp only [List.length_cons]
    omega
theorem near_left (w : Str) (found : List Str) (h : found.length < 26) : 0 < ((nearL w).filter fun x => !decide (x ∈ found)).length := by
  refine Nat.pos_of_ne_zero fun z => ?_
  have z := List.filter_eq_nil_iff.mp (List.length_eq_zero_iff.mp z)
  have nd : (lets.map fun c => cut5 w ++ ch c).Nodup := by
    refine (List.pairwise_map).mpr ?_
    have hl : lets.Nodup := by decide
    refine List.Pairwise.imp (fun {a b} hne e => ?_) hl
    have e := congrArg (fun x : Str => x.cps.toList) e
    simp only [app_cps] at e
    have e := List.append_cancel_left e
    have : [a] = [b] := e
    simp at this
    exact hne this
  have := sub_len nd (ys := found) (fun x hx => by
    have := z x (List.mem_cons_of_mem _ hx)
    simpa using this)
  rw [List.length_map] at this
  have e : lets.length = 26 := rfl
  omega
section
variable {R : Type} {T : Fm R}
theorem pick_let (hT : Draws T) (r : R) : ∃ c r', c ∈ lets ∧ f__law_pick T [.res, .str "abcdefghijklmnopqrstuvwxyz"] r = some (.sh (.str (ch c)), r') := by
  have hl : ("abcdefghijklmnopqrstuvwxyz" : Str).length = 26 := by decide
  obtain ⟨k, r', hk, e⟩ := hT r 26 (by omega) (by omega)
  have hk : k < lets.length := by show k < 26; omega
  refine ⟨lets[k], r', List.getElem_mem _, ?_⟩
  have hz : (26 : Nat) ≤ sizeLine := by decide
  simp [f__law_pick, m__law_pick, fnM, fnR, ent, mSeq, mSet, mV, mC, mOp1, mOp2, mChain, mAnd, mOr, mNot, mIf, mArgs, escAll, esc, soft, pk, hard, put, puts, mHards, mPar, mTup, mLst, mDct0, mCall, mRest, mRt, mRtN, mNx, mEx, mIte, mMut, mPut, mIt, bindT, bindTs, isAtom, isLst, isDK, plainAt, wipeE, backE, mFor, mLc, mDc, mWhile, mBk, mCt, mNo, mSl, mNoP, mPt, mJoin, mRng1, mRng2, mZip, mCallK, pickL, mMeth, mProp, mMake, mFld, fnI, fnIR, mDisp, mPairs, o2I, gtI, geI, leI, mStar, mStarT, mStarL, mAugI, mIndex, lenD, idxD, idxS, hl, hz, e, lets_eq, atI_nat' hk, ch]
theorem range_len (n : Nat) (lo : Int) : (rangeOf n lo).length = n := by simp [rangeOf]
theorem rng1 {ma : M R Vr} {s s' : S R} {n : Nat} {i : Int} (h : ma s = some (.sh (.int i), s')) (hi : i = n) (hn : n ≤ 16777216) : mRng1 ma s = some (rangeOf n 0, s') := by
  subst hi
  simp [mRng1, h, hn]
def names0 : List Str := ["a", "b", "goal", "home", "lost", "rings", "posts", "done", "way", "zzzzzz"]
instance (x : Str) : Decidable (isName x) := by unfold isName; exact inferInstance
theorem names0_ok : ∀ x ∈ names0, isName x := by decide
theorem join_cps : ∀ (cs : List Nat), (Txt.join "" (cs.map ch)).cps.toList = cs := by
  intro cs
  have e : (Txt.join "" (cs.map ch)).cps.toList = TL.joinL [] ((cs.map ch).map TL.tl) := by
    have e := TL.tl_join ("" : Str) (cs.map ch)
    rw [← TL.join_eq] at e
    exact e
  rw [e, List.map_map]
  clear e
  induction cs with
  | nil => rfl
  | cons c cs ih =>
    cases cs with
    | nil => rfl
    | cons d cs => exact congrArg (fun z => c :: z) ih
theorem words_ok (hT : Draws T) (n : Nat) (hn : n ≤ 12) (r : R) : ∃ ys r', ys.length = n ∧ ys.Nodup ∧ (∀ y ∈ ys, isName y) ∧ f__law_words T [.res, .int n] r = some (.tmp (.lst (dS ys)), r') := by
  suffices h : Ev (f__law_words T [.res, .int n] r) (fun v r' => ∃ ys, ys.length = n ∧ ys.Nodup ∧ (∀ y ∈ ys, isName y) ∧ v = .tmp (.lst (dS ys))) by
    obtain ⟨v, r', e, ys, h1, h2, h3, rfl⟩ := h
    exact ⟨ys, r', h1, h2, h3, e⟩
  let I : List D → S R → Prop := fun ds s => ∃ (found : List Str) (a5 a6 a7 a8 : Option Cell) (r' : R), s = ⟨[some ⟨.res, false⟩, some ⟨.int n, false⟩, some ⟨.str "abcdefghijklmnopqrstuvwxyz", false⟩, some ⟨.lst (dS found), true⟩, some ⟨.lst (dS names0), true⟩, a5, a6, a7, a8, none, none, none], r'⟩ ∧ found.length + ds.length = n ∧ found.Nodup ∧ ∀ y ∈ found, isName y
  unfold f__law_words m__law_words
  generalize hF : mFor _ _ _ = F1
  simp [fnM, fnR, ent, mSeq, mSet, mV, mC, mOp1, mOp2, mChain, mAnd, mOr, mNot, mIf, mArgs, escAll, esc, soft, pk, hard, put, puts, mHards, mPar, mTup, mLst, mDct0, mCall, mRest, mRt, mRtN, mNx, mEx, mIte, mMut, mPut, mIt, bindT, bindTs, isAtom, isLst, isDK, plainAt, wipeE, backE, mFor, mLc, mDc, mWhile, mBk, mCt, mNo, mSl, mNoP, mPt, mJoin, mRng1, mRng2, mZip, mCallK, pickL, mMeth, mProp, mMake, mFld, fnI, fnIR, mDisp, mPairs, o2I, gtI, geI, leI, mStar, mStarT, mStarL, mAugI, mIndex]
  subst hF
  have hn' : n ≤ 16777216 := by omega
  refine mFor_ev (ds := rangeOf n 0) (by simp [mRng1, mV, hn']; rfl) ?_
  refine (for_ev I (fun fl s => fl = .nx ∧ I [] s) (fun d ds s hs => ?_) (fun s hs => ⟨rfl, hs⟩) (rangeOf n 0) _ ⟨[], none, none, none, none, r, rfl, by simp [range_len], by simp, by simp⟩).mono ?_
  · obtain ⟨found, a5, a6, a7, a8, r', rfl, h1, h2, h3⟩ := hs
    simp only [List.length_cons] at h1
    obtain ⟨d1, r1, hd1, e1⟩ := pick_ok hT (dS names0) (by decide) (by decide) r'
    obtain ⟨w1, hw1, rfl⟩ : ∃ w1, isName w1 ∧ d1 = .str w1 := by
      obtain ⟨x, hx, rfl⟩ := List.mem_map.mp hd1
      exact ⟨x, names0_ok x hx, rfl⟩
    obtain ⟨k2, r2, hk2, e2⟩ := hT r1 3 (by omega) (by omega)
    generalize hB : mSeq (mSet 8 _) _ = TAIL
    have tail : ∀ (w : Str) (a7 : Option Cell) (r3 : R), isName w → Ev (TAIL ⟨[some ⟨.res, false⟩, some ⟨.int n, false⟩, some ⟨.str "abcdefghijklmnopqrstuvwxyz", false⟩, some ⟨.lst (dS found), true⟩, some ⟨.lst (dS names0), true⟩, some ⟨d, false⟩, some ⟨.str w, false⟩, a7, a8, none, none, none], r3⟩) (fun fl s' => fl = .nx ∧ I ds s') := by
      intro w a7 r3 hw
      subst hB
      have hw5 : w.length ≤ sizeLine := by have := hw.2.1; unfold sizeLine; show w.cps.size ≤ _; omega
      have hc5 : ∀ c : Nat, (cutS w none (some 5)).length + (ch c).length ≤ sizeLine := fun c => by
        have e : (cut5 w).cps.toList.length = _ := congrArg List.length (cut5_cps w)
        rw [List.length_take] at e
        show (cut5 w).cps.size + 1 ≤ _
        rw [size_eq, e]
        unfold sizeLine
        omega
      generalize hL2 : mLc [9] _ _ _ _ = L2
      generalize hL3 : mLc [11] _ _ _ _ = L3
      have eL2 : L2 ⟨[some ⟨.res, false⟩, some ⟨.int n, false⟩, some ⟨.str "abcdefghijklmnopqrstuvwxyz", false⟩, some ⟨.lst (dS found), true⟩, some ⟨.lst (dS names0), true⟩, some ⟨d, false⟩, some ⟨.str w, false⟩, a7, a8, none, none, none], r3⟩ = some (.tmp (.lst (lets.map fun c => .str (cut5 w ++ ch c))), ⟨[some ⟨.res, false⟩, some ⟨.int n, false⟩, some ⟨.str "abcdefghijklmnopqrstuvwxyz", false⟩, some ⟨.lst (dS found), true⟩, some ⟨.lst (dS names0), true⟩, some ⟨d, false⟩, some ⟨.str w, false⟩, a7, a8, none, none, none], r3⟩) := by
        rw [← hL2]
        refine mLc_all (fun c => .str (ch c)) (fun c => .str (cut5 w ++ ch c)) lets ?_ (by rfl) (fun c hc => ?_) (by decide)
        · simp [fnM, fnR, ent, mSeq, mSet, mV, mC, mOp1, mOp2, mChain, mAnd, mOr, mNot, mIf, mArgs, escAll, esc, soft, pk, hard, put, puts, mHards, mPar, mTup, mLst, mDct0, mCall, mRest, mRt, mRtN, mNx, mEx, mIte, mMut, mPut, mIt, bindT, bindTs, isAtom, isLst, isDK, plainAt, wipeE, backE, mFor, mLc, mDc, mWhile, mBk, mCt, mNo, mSl, mNoP, mPt, mJoin, mRng1, mRng2, mZip, mCallK, pickL, mMeth, mProp, mMake, mFld, fnI, fnIR, mDisp, mPairs, o2I, gtI, geI, leI, mStar, mStarT, mStarL, mAugI, mIndex, itemsOf, lets_eq, ch]
        · simp [fnM, fnR, ent, mSeq, mSet, mV, mC, mOp1, mOp2, mChain, mAnd, mOr, mNot, mIf, mArgs, escAll, esc, soft, pk, hard, put, puts, mHards, mPar, mTup, mLst, mDct0, mCall, mRest, mRt, mRtN, mNx, mEx, mIte, mMut, mPut, mIt, bindT, bindTs, isAtom, isLst, isDK, plainAt, wipeE, backE, mFor, mLc, mDc, mWhile, mBk, mCt, mNo, mSl, mNoP, mPt, mJoin, mRng1, mRng2, mZip, mCallK, pickL, mMeth, mProp, mMake, mFld, fnI, fnIR, mDisp, mPairs, o2I, gtI, geI, leI, mStar, mStarT, mStarL, mAugI, mIndex, cutD, hw5, addD, hc5 c, cut5]
      have eL3 : L3 ⟨[some ⟨.res, false⟩, some ⟨.int n, false⟩, some ⟨.str "abcdefghijklmnopqrstuvwxyz", false⟩, some ⟨.lst (dS found), true⟩, some ⟨.lst (dS names0), true⟩, some ⟨d, false⟩, some ⟨.str w, false⟩, a7, some ⟨.lst (dS (nearL w)), true⟩, none, none, none], r3⟩ = some (.tmp (.lst (((nearL w).filter fun x => !decide (x ∈ found)).map D.str)), ⟨[some ⟨.res, false⟩, some ⟨.int n, false⟩, some ⟨.str "abcdefghijklmnopqrstuvwxyz", false⟩, some ⟨.lst (dS found), true⟩, some ⟨.lst (dS names0), true⟩, some ⟨d, false⟩, some ⟨.str w, false⟩, a7, some ⟨.lst (dS (nearL w)), false⟩, none, none, none], r3⟩) := by
        rw [← hL3]
        refine mLc_enc D.str (fun x => !decide (x ∈ found)) D.str (nearL w) ?_ (by rfl) (fun x hx => ?_) (by show (lets.map _).length + 1 ≤ _; rw [List.length_map]; decide)
        · simp [fnM, fnR, ent, mSeq, mSet, mV, mC, mOp1, mOp2, mChain, mAnd, mOr, mNot, mIf, mArgs, escAll, esc, soft, pk, hard, put, puts, mHards, mPar, mTup, mLst, mDct0, mCall, mRest, mRt, mRtN, mNx, mEx, mIte, mMut, mPut, mIt, bindT, bindTs, isAtom, isLst, isDK, plainAt, wipeE, backE, mFor, mLc, mDc, mWhile, mBk, mCt, mNo, mSl, mNoP, mPt, mJoin, mRng1, mRng2, mZip, mCallK, pickL, mMeth, mProp, mMake, mFld, fnI, fnIR, mDisp, mPairs, o2I, gtI, geI, leI, mStar, mStarT, mStarL, mAugI, mIndex, itemsOf, dS]
        · simp [fnM, fnR, ent, mSeq, mSet, mV, mC, mOp1, mOp2, mChain, mAnd, mOr, mNot, mIf, mArgs, escAll, esc, soft, pk, hard, put, puts, mHards, mPar, mTup, mLst, mDct0, mCall, mRest, mRt, mRtN, mNx, mEx, mIte, mMut, mPut, mIt, bindT, bindTs, isAtom, isLst, isDK, plainAt, wipeE, backE, mFor, mLc, mDc, mWhile, mBk, mCt, mNo, mSl, mNoP, mPt, mJoin, mRng1, mRng2, mZip, mCallK, pickL, mMeth, mProp, mMake, mFld, fnI, fnIR, mDisp, mPairs, o2I, gtI, geI, leI, mStar, mStarT, mStarL, mAugI, mIndex, ninD, in_lst]
      have hpos := near_left w found (by omega)
      generalize hz : ((nearL w).filter fun x => !decide (x ∈ found)) = zs at hpos eL3
      match zs, hpos, hz with
      | z :: zs, _, hz =>
        have hz1 : z ∈ (nearL w).filter fun x => !decide (x ∈ found) := by rw [hz]; exact List.mem_cons_self
        obtain ⟨hz2, hz3⟩ := List.mem_filter.mp hz1
        have hz3 : z ∉ found := by simpa using hz3
        have hnear : (.str w :: lets.map fun c => D.str (cut5 w ++ ch c)) = dS (nearL w) := by simp [dS, nearL]
        have hl1 : lets.length + 1 ≤ sizeLine := by decide
        have hl2 : found.length < sizeLine := by unfold sizeLine; omega
        have hl3 : (dS found).length < sizeLine := by rw [dS_length]; exact hl2
        have ha : atI (D.str z :: zs.map D.str) 0 = some (.str z) := by simp [atI, ixN]
        have hd : dS found ++ [.str z] = dS (found ++ [z]) := by simp [dS]
        simp [fnM, fnR, ent, mSeq, mSet, mV, mC, mOp1, mOp2, mChain, mAnd, mOr, mNot, mIf, mArgs, escAll, esc, soft, pk, hard, put, puts, mHards, mPar, mTup, mLst, mDct0, mCall, mRest, mRt, mRtN, mNx, mEx, mIte, mMut, mPut, mIt, bindT, bindTs, isAtom, isLst, isDK, plainAt, wipeE, backE, mFor, mLc, mDc, mWhile, mBk, mCt, mNo, mSl, mNoP, mPt, mJoin, mRng1, mRng2, mZip, mCallK, pickL, mMeth, mProp, mMake, mFld, fnI, fnIR, mDisp, mPairs, o2I, gtI, geI, leI, mStar, mStarT, mStarL, mAugI, mIndex, eL2, addD, hl1, Nat.add_comm 1, hnear, eL3, idxD, idxS, ha, appL, hl3, hd]
        refine ⟨found ++ [z], _, _, _, _, r3, rfl, by simp; omega, ?_, ?_⟩
        · rw [List.nodup_append]
          exact ⟨h2, by simp, fun a hfa b hb => by simp at hb; subst hb; exact fun e => hz3 (e ▸ hfa)⟩
        · intro y hy
          rcases List.mem_append.mp hy with hy | hy
          · exact h3 y hy
          · have : y = z := by simpa using hy
            rw [this]; exact isName_near hw z hz2
    by_cases hk : k2 = 0
    · subst hk
      simp [fnM, fnR, ent, mSeq, mSet, mV, mC, mOp1, mOp2, mChain, mAnd, mOr, mNot, mIf, mArgs, escAll, esc, soft, pk, hard, put, puts, mHards, mPar, mTup, mLst, mDct0, mCall, mRest, mRt, mRtN, mNx, mEx, mIte, mMut, mPut, mIt, bindT, bindTs, isAtom, isLst, isDK, plainAt, wipeE, backE, mFor, mLc, mDc, mWhile, mBk, mCt, mNo, mSl, mNoP, mPt, mJoin, mRng1, mRng2, mZip, mCallK, pickL, mMeth, mProp, mMake, mFld, fnI, fnIR, mDisp, mPairs, o2I, gtI, geI, leI, mStar, mStarT, mStarL, mAugI, mIndex, e1, e2]
      refine (tail w1 a7 r2 hw1).mono ?_
      rintro fl s' ⟨rfl, h⟩
      simpa using h
    · obtain ⟨d3, r3, hd3, e3⟩ := pick_ok hT [.int 1, .int 2, .int 6] (by decide) (by decide) r2
      obtain ⟨m, hm1, hm2, rfl⟩ : ∃ m : Nat, 1 ≤ m ∧ m ≤ 6 ∧ d3 = .int m := by
        simp only [List.mem_cons, List.not_mem_nil, or_false] at hd3
        rcases hd3 with rfl | rfl | rfl
        · exact ⟨1, by omega, by omega, rfl⟩
        · exact ⟨2, by omega, by omega, rfl⟩
        · exact ⟨6, by omega, by omega, rfl⟩
      obtain ⟨k4, r4, hk4, e4⟩ := hT r3 m (by omega) (by omega)
      generalize hL1 : mLc [10] _ _ _ _ = L1
      have eL1 : Ev (L1 ⟨[some ⟨.res, false⟩, some ⟨.int n, false⟩, some ⟨.str "abcdefghijklmnopqrstuvwxyz", false⟩, some ⟨.lst (dS found), true⟩, some ⟨.lst (dS names0), true⟩, some ⟨d, false⟩, some ⟨.str w1, false⟩, some ⟨.int (1 + (k4 : Int)), false⟩, a8, none, none, none], r4⟩) (fun v s => ∃ (cs : List Nat) (r5 : R), cs.length = k4 + 1 ∧ (∀ c ∈ cs, c ∈ lets) ∧ v = .tmp (.lst (dS (cs.map ch))) ∧ s = ⟨[some ⟨.res, false⟩, some ⟨.int n, false⟩, some ⟨.str "abcdefghijklmnopqrstuvwxyz", false⟩, some ⟨.lst (dS found), true⟩, some ⟨.lst (dS names0), true⟩, some ⟨d, false⟩, some ⟨.str w1, false⟩, some ⟨.int (1 + (k4 : Int)), false⟩, a8, none, none, none], r5⟩) := by
        rw [← hL1]
        have hi : mRng1 (mV 7) (⟨[some ⟨.res, false⟩, some ⟨.int n, false⟩, some ⟨.str "abcdefghijklmnopqrstuvwxyz", false⟩, some ⟨.lst (dS found), true⟩, some ⟨.lst (dS names0), true⟩, some ⟨d, false⟩, some ⟨.str w1, false⟩, some ⟨.int (1 + (k4 : Int)), false⟩, a8, none, none, none], r4⟩ : S R) = some (rangeOf (k4 + 1) 0, ⟨[some ⟨.res, false⟩, some ⟨.int n, false⟩, some ⟨.str "abcdefghijklmnopqrstuvwxyz", false⟩, some ⟨.lst (dS found), true⟩, some ⟨.lst (dS names0), true⟩, some ⟨d, false⟩, some ⟨.str w1, false⟩, some ⟨.int (1 + (k4 : Int)), false⟩, a8, none, none, none], r4⟩) := by
          exact rng1 (i := 1 + (k4 : Int)) rfl (by omega) (by omega)
        simp only [mLc, hi, Option.bind, Ev_map]
        refine (lc_ev (fun ds acc s => ∃ (cs : List Nat) (r5 : R), acc = dS (cs.map ch) ∧ cs.length + ds.length = k4 + 1 ∧ (∀ c ∈ cs, c ∈ lets) ∧ s = ⟨[some ⟨.res, false⟩, some ⟨.int n, false⟩, some ⟨.str "abcdefghijklmnopqrstuvwxyz", false⟩, some ⟨.lst (dS found), true⟩, some ⟨.lst (dS names0), true⟩, some ⟨d, false⟩, some ⟨.str w1, false⟩, some ⟨.int (1 + (k4 : Int)), false⟩, a8, none, none, none], r5⟩) ?_ (rangeOf (k4 + 1) 0) [] _ ⟨[], r4, rfl, by simp [range_len], by simp, rfl⟩).mono ?_
        · rintro d' ds' acc s ⟨cs, r5, rfl, hl, hc, rfl⟩
          simp only [List.length_cons] at hl
          obtain ⟨c, r6, hc6, e6⟩ := pick_let hT r5
          have hlen : cs.length < sizeLine := by unfold sizeLine; omega
          refine ⟨rfl, ?_⟩
          simp [fnM, fnR, ent, mSeq, mSet, mV, mC, mOp1, mOp2, mChain, mAnd, mOr, mNot, mIf, mArgs, escAll, esc, soft, pk, hard, put, puts, mHards, mPar, mTup, mLst, mDct0, mCall, mRest, mRt, mRtN, mNx, mEx, mIte, mMut, mPut, mIt, bindT, bindTs, isAtom, isLst, isDK, plainAt, wipeE, backE, mFor, mLc, mDc, mWhile, mBk, mCt, mNo, mSl, mNoP, mPt, mJoin, mRng1, mRng2, mZip, mCallK, pickL, mMeth, mProp, mMake, mFld, fnI, fnIR, mDisp, mPairs, o2I, gtI, geI, leI, mStar, mStarT, mStarL, mAugI, mIndex, e6, dS, hlen]
          exact ⟨cs ++ [c], by simp, by simp; omega, fun x hx => by
            rcases List.mem_append.mp hx with hx | hx
            · exact hc x hx
            · have : x = c := by simpa using hx
              rw [this]; exact hc6⟩
        · rintro zs s ⟨cs, r5, rfl, hl, hc, rfl⟩
          exact ⟨cs, r5, by simpa using hl, hc, rfl, rfl⟩
      obtain ⟨v, s5, e5, cs, r5, hcl, hcm, rfl, rfl⟩ := eL1
      have hw2 : isName (Txt.join "" (cs.map ch)) := by
        refine ⟨?_, ?_, ?_⟩
        · rw [size_eq, join_cps]; omega
        · rw [size_eq, join_cps]; omega
        · rw [join_cps]; exact hcm
      have hj : (((cs.map ch).map (·.length)).sum + (cs.map ch).length * ("" : Str).length ≤ 16777216) := by
        have e : ((cs.map ch).map (·.length)) = List.replicate cs.length 1 := by
          rw [List.map_map]
          exact List.eq_replicate_iff.mpr ⟨by simp, fun b hb => by obtain ⟨c, _, rfl⟩ := List.mem_map.mp hb; rfl⟩
        rw [e]
        simp
        show _ + _ * 0 ≤ _
        omega
      have hj2 : joinD (.str "") (.lst (dS (cs.map ch))) = some (.sh (.str (Txt.join "" (cs.map ch)))) := by
        simp only [joinD, strsOf_dS, Option.bind, hj, if_true]
      have hk0 : 0 < k2 := by omega
      simp [fnM, fnR, ent, mSeq, mSet, mV, mC, mOp1, mOp2, mChain, mAnd, mOr, mNot, mIf, mArgs, escAll, esc, soft, pk, hard, put, puts, mHards, mPar, mTup, mLst, mDct0, mCall, mRest, mRt, mRtN, mNx, mEx, mIte, mMut, mPut, mIt, bindT, bindTs, isAtom, isLst, isDK, plainAt, wipeE, backE, mFor, mLc, mDc, mWhile, mBk, mCt, mNo, mSl, mNoP, mPt, mJoin, mRng1, mRng2, mZip, mCallK, pickL, mMeth, mProp, mMake, mFld, fnI, fnIR, mDisp, mPairs, o2I, gtI, geI, leI, mStar, mStarT, mStarL, mAugI, mIndex, e1, e2, hk0, e3, e4, addD, e5, hj2]
      refine (tail _ _ r5 hw2).mono ?_
      rintro fl s' ⟨rfl, h⟩
      simpa using h
  · rintro fl s ⟨rfl, found, a5, a6, a7, a8, r', rfl, h1, h2, h3⟩
    simp
    exact ⟨found, by simpa using h1, h2, h3, rfl⟩
end
end RW
namespace RW
open PySem L2
section
variable {R : Type} {T : Fm R}
/-! ### tables -/
abbrev Tab := List (Str × Option Str)
def PlaceOk (dots : List Str) (e x : Str) (y : Option Str) : Prop := y = none ∨ y = some e ∨ ∃ z, y = some z ∧ z ∈ dots ∧ z ≠ x
def TabOk (dots : List Str) (e : Str) (t : Tab) : Prop := (t.map (·.1)).Perm dots ∧ ∀ p ∈ t, PlaceOk dots e p.1 p.2
theorem dO_atom (y : Option Str) : isAtom (.sh (dO y)) = true := by cases y <;> rfl
/-! ### paths -/
theorem cut_last {α : Type} (xs : List α) (a : α) : cutL (xs ++ [a]) none (some (-1)) = xs := by
  unfold cutL
  have e : HT.sIx (xs ++ [a]).length (xs ++ [a]).length (some (-1)) = xs.length := by
    unfold HT.sIx
    simp
    omega
  rw [e]
  show List.take (xs.length - 0) (List.drop 0 (xs ++ [a])) = xs
  simp
end
end RW
namespace RW
open PySem L2
section
variable {R : Type} {T : Fm R}
theorem sort_dS {xs : List Str} (h : xs.length < 64) : sortF (.lst (dS xs)) = some (.tmp (.lst (dS (sortS xs)))) := by
  simp only [sortF, sortD, strsOf_dS, Option.bind, h, if_true]; rfl
theorem sort_dT {α : Type} {f : α → D} {t : List (Str × α)} (h : t.length < 64) : sortF (dT f t) = some (.tmp (.lst (dS (sortS (t.map (·.1)))))) := by
  unfold dT
  have h : (t.map (·.1)).length < 64 := by rw [List.length_map]; exact h
  simp only [sortF, sortD, keysStr_dT, Option.bind, h, if_true]; rfl
theorem sortS_mem {xs : List Str} {x : Str} : x ∈ sortS xs ↔ x ∈ xs := (sortS_perm xs).mem_iff
theorem sortS_len (xs : List Str) : (sortS xs).length = xs.length := (sortS_perm xs).length_eq
theorem sortS_nd {xs : List Str} (h : xs.Nodup) : (sortS xs).Nodup := (sortS_perm xs).nodup_iff.mpr h
theorem sortS_of_perm {xs ys : List Str} (h : xs.Perm ys) : sortS xs = sortS ys :=
  List.Perm.eq_of_pairwise (le := fun a b => leS a b = true) (fun a b _ _ h1 h2 => leS_anti h1 h2) (sortS_pw xs) (sortS_pw ys) ((sortS_perm xs).trans (h.trans (sortS_perm ys).symm))
theorem sortS_self {xs : List Str} (h : xs.Pairwise fun a b => leS a b = true) : sortS xs = xs :=
  List.Perm.eq_of_pairwise (le := fun a b => leS a b = true) (fun a b _ _ h1 h2 => leS_anti h1 h2) (sortS_pw xs) h (sortS_perm xs)
theorem cut_to {α : Type} (xs : List α) (k : Nat) : cutL xs none (some (k : Int)) = xs.take k := by
  unfold cutL
  rw [HT.sIx_nat]
  show List.take (min k xs.length - 0) (List.drop 0 xs) = _
  rw [List.drop_zero, Nat.sub_zero, ← List.take_take, List.take_length]
theorem cut_from {α : Type} (xs : List α) (k : Nat) : cutL xs (some (k : Int)) none = xs.drop k := by
  unfold cutL
  rw [HT.sIx_nat]
  show List.take (xs.length - min k xs.length) (List.drop (min k xs.length) xs) = _
  by_cases h : k ≤ xs.length
  · rw [Nat.min_eq_left h, List.take_of_length_le (by simp)]
  · rw [Nat.min_eq_right (by omega), List.drop_length, List.drop_of_length_le (by omega)]; simp
def dP (p : Tab × Tab) : D := .tup [dT dO p.1, dT dO p.2]
end
end RW
namespace RW
open PySem L2
/-! ### models of nets -/
structure Mod where
  rows : List (Str × (Tab × Tab))
  dots : List Str
  sources : List Str
  posts : List Str
def Up (xs : List Str) : Prop := xs.Pairwise fun a b => leS a b = true
structure ModW (M : Mod) : Prop where
  r1 : 0 < M.rows.length
  r2 : M.rows.length ≤ 2
  rn : (M.rows.map (·.1)).Nodup
  rname : ∀ p ∈ M.rows, isName p.1
  rdot : ∀ p ∈ M.rows, p.1 ∉ M.dots
  tab : ∀ p ∈ M.rows, TabOk M.dots p.1 p.2.1 ∧ TabOk M.dots p.1 p.2.2
  d1 : 0 < M.dots.length
  d2 : M.dots.length ≤ 6
  dn : M.dots.Nodup
  du : Up M.dots
  dname : ∀ x ∈ M.dots, isName x
  sn : M.sources.Nodup
  su : Up M.sources
  ssub : ∀ x ∈ M.sources, x ∈ M.dots
  pn : M.posts.Nodup
  p2 : M.posts.length ≤ 2
  psub : ∀ x ∈ M.posts, x ∈ M.dots
structure ModOk (M : Mod) : Prop extends ModW M where
  ru : Up (M.rows.map (·.1))
section
variable {R : Type} {T : Fm R}
theorem dS_take (xs : List Str) (k : Nat) : (dS xs).take k = dS (xs.take k) := by simp [dS, List.map_take]
theorem dS_drop (xs : List Str) (k : Nat) : (dS xs).drop k = dS (xs.drop k) := by simp [dS, List.map_drop]
end
end RW
namespace RW
open PySem L2
section
variable {R : Type} {T : Fm R}
/-! ### nets are made -/
theorem len_lst (xs : List D) : lenD (.lst xs) = some (.sh (.int xs.length)) := rfl
theorem len_tup (xs : List D) : lenD (.tup xs) = some (.sh (.int xs.length)) := rfl
theorem isi_str (x : Str) : isiD "str" (.str x) = some (.sh (.bl true)) := rfl
theorem isi_dict {α : Type} (f : α → D) (t : List (Str × α)) : isiD "dict" (dT f t) = some (.sh (.bl true)) := rfl
theorem isi_tup (ds : List D) : isiD "tuple" (.tup ds) = some (.sh (.bl true)) := rfl
theorem in_letters (c : Nat) : inB (.str (ch c)) (.str "abcdefghijklmnopqrstuvwxyz") = some (decide (c ∈ lets)) := by
  have e : (ch c).cps.toList = [c] := rfl
  simp only [inB, e, lets_eq]
theorem len_str {x : Str} (h : isName x) : lenD (.str x) = some (.sh (.int x.cps.size)) := by
  have : x.length ≤ sizeLine := by have := h.2.1; show x.cps.size ≤ _; unfold sizeLine; omega
  simp only [lenD, this, if_true]; rfl
theorem all_true {α : Type} (xs : List α) : allD (.lst (xs.map fun _ => .bl true)) = some (.sh (.bl true)) := by
  have := all_bl (xs.map fun _ => true)
  rw [List.map_map] at this
  have e : (xs.map fun _ => true).all id = true := by simp
  rw [e] at this
  exact this
theorem is_name_ok {x : Str} (h : isName x) (r : R) : f_is_name T [.str x] r = some (.sh (.bl true), r) := by
  unfold f_is_name m_is_name
  generalize hL : mLc _ _ _ _ _ = L
  have eL : L ⟨[some ⟨.str x, false⟩, none], r⟩ = some (.tmp (.lst (x.cps.toList.map fun c => .bl (decide (c ∈ lets)))), ⟨[some ⟨.str x, false⟩, none], r⟩) := by
    rw [← hL]
    refine mLc_all (fun c => .str (ch c)) (fun c => .bl (decide (c ∈ lets))) x.cps.toList ?_ (by rfl) (fun c hc => ?_) (by rw [← size_eq]; have := h.2.1; unfold sizeLine; omega)
    · simp [fnM, fnR, ent, mSeq, mSet, mV, mC, mOp1, mOp2, mChain, mAnd, mOr, mNot, mIf, mArgs, escAll, esc, soft, pk, hard, put, puts, mHards, mPar, mTup, mLst, mDct0, mCall, mRest, mRt, mRtN, mNx, mEx, mIte, mMut, mPut, mIt, bindT, bindTs, isAtom, isLst, isDK, plainAt, wipeE, backE, mFor, mLc, mDc, mWhile, mBk, mCt, mNo, mSl, mNoP, mPt, mJoin, mRng1, mRng2, mZip, mCallK, pickL, mMeth, mProp, mMake, mFld, fnI, fnIR, mDisp, mPairs, o2I, gtI, geI, leI, mStar, mStarT, mStarL, mAugI, mIndex, itemsOf, ch]
    · simp [fnM, fnR, ent, mSeq, mSet, mV, mC, mOp1, mOp2, mChain, mAnd, mOr, mNot, mIf, mArgs, escAll, esc, soft, pk, hard, put, puts, mHards, mPar, mTup, mLst, mDct0, mCall, mRest, mRt, mRtN, mNx, mEx, mIte, mMut, mPut, mIt, bindT, bindTs, isAtom, isLst, isDK, plainAt, wipeE, backE, mFor, mLc, mDc, mWhile, mBk, mCt, mNo, mSl, mNoP, mPt, mJoin, mRng1, mRng2, mZip, mCallK, pickL, mMeth, mProp, mMake, mFld, fnI, fnIR, mDisp, mPairs, o2I, gtI, geI, leI, mStar, mStarT, mStarL, mAugI, mIndex, inD, in_letters]
  have hall : allD (.lst (x.cps.toList.map fun c => .bl (decide (c ∈ lets)))) = some (.sh (.bl true)) := by
    have := all_bl (x.cps.toList.map fun c => decide (c ∈ lets))
    rw [List.map_map] at this
    have e : (x.cps.toList.map fun c => decide (c ∈ lets)).all id = true := by
      rw [List.all_map, List.all_eq_true]
      intro c hc
      exact decide_eq_true (h.2.2 c hc)
    rw [e] at this
    exact this
  have h1 := h.1
  have h2 := h.2.1
  have h1' : (1 : Int) ≤ (x.cps.size : Int) := by omega
  have h2' : (x.cps.size : Int) ≤ 6 := by omega
  simp [fnM, fnR, ent, mSeq, mSet, mV, mC, mOp1, mOp2, mChain, mAnd, mOr, mNot, mIf, mArgs, escAll, esc, soft, pk, hard, put, puts, mHards, mPar, mTup, mLst, mDct0, mCall, mRest, mRt, mRtN, mNx, mEx, mIte, mMut, mPut, mIt, bindT, bindTs, isAtom, isLst, isDK, plainAt, wipeE, backE, mFor, mLc, mDc, mWhile, mBk, mCt, mNo, mSl, mNoP, mPt, mJoin, mRng1, mRng2, mZip, mCallK, pickL, mMeth, mProp, mMake, mFld, fnI, fnIR, mDisp, mPairs, o2I, gtI, geI, leI, mStar, mStarT, mStarL, mAugI, mIndex, isi_str, len_str h, h1', h2', eL, hall]
theorem are_names_ok {α : Type} (f : α → D) (t : List (Str × α)) (m : Nat) (h0 : 1 ≤ t.length) (h1 : t.length ≤ m) (hm : m < 100) (hn : ∀ x ∈ t.map (·.1), isName x) (r : R) : f_are_names T [dT f t, .int m] r = some (.sh (.bl true), r) := by
  unfold f_are_names m_are_names
  generalize hL : mLc _ _ _ _ _ = L
  have eL : L ⟨[some ⟨dT f t, false⟩, some ⟨.int m, false⟩, none], r⟩ = some (.tmp (.lst (t.map fun _ => .bl true)), ⟨[some ⟨dT f t, false⟩, some ⟨.int m, false⟩, none], r⟩) := by
    rw [← hL]
    refine mLc_all (fun p : Str × α => .str p.1) (fun _ => .bl true) t ?_ (by rfl) (fun x hx => ?_) (by unfold sizeLine; omega)
    · simp [fnM, fnR, ent, mSeq, mSet, mV, mC, mOp1, mOp2, mChain, mAnd, mOr, mNot, mIf, mArgs, escAll, esc, soft, pk, hard, put, puts, mHards, mPar, mTup, mLst, mDct0, mCall, mRest, mRt, mRtN, mNx, mEx, mIte, mMut, mPut, mIt, bindT, bindTs, isAtom, isLst, isDK, plainAt, wipeE, backE, mFor, mLc, mDc, mWhile, mBk, mCt, mNo, mSl, mNoP, mPt, mJoin, mRng1, mRng2, mZip, mCallK, pickL, mMeth, mProp, mMake, mFld, fnI, fnIR, mDisp, mPairs, o2I, gtI, geI, leI, mStar, mStarT, mStarL, mAugI, mIndex, items_dT, dS, Function.comp_def]
    · simp [fnM, fnR, ent, mSeq, mSet, mV, mC, mOp1, mOp2, mChain, mAnd, mOr, mNot, mIf, mArgs, escAll, esc, soft, pk, hard, put, puts, mHards, mPar, mTup, mLst, mDct0, mCall, mRest, mRt, mRtN, mNx, mEx, mIte, mMut, mPut, mIt, bindT, bindTs, isAtom, isLst, isDK, plainAt, wipeE, backE, mFor, mLc, mDc, mWhile, mBk, mCt, mNo, mSl, mNoP, mPt, mJoin, mRng1, mRng2, mZip, mCallK, pickL, mMeth, mProp, mMake, mFld, fnI, fnIR, mDisp, mPairs, o2I, gtI, geI, leI, mStar, mStarT, mStarL, mAugI, mIndex, is_name_ok (hn x.1 (List.mem_map_of_mem (f := (·.1)) hx))]
  have hall := all_true t
  have h1' : (1 : Int) ≤ (t.length : Int) := by omega
  have h2' : (t.length : Int) ≤ (m : Int) := by omega
  simp [fnM, fnR, ent, mSeq, mSet, mV, mC, mOp1, mOp2, mChain, mAnd, mOr, mNot, mIf, mArgs, escAll, esc, soft, pk, hard, put, puts, mHards, mPar, mTup, mLst, mDct0, mCall, mRest, mRt, mRtN, mNx, mEx, mIte, mMut, mPut, mIt, bindT, bindTs, isAtom, isLst, isDK, plainAt, wipeE, backE, mFor, mLc, mDc, mWhile, mBk, mCt, mNo, mSl, mNoP, mPt, mJoin, mRng1, mRng2, mZip, mCallK, pickL, mMeth, mProp, mMake, mFld, fnI, fnIR, mDisp, mPairs, o2I, gtI, geI, leI, mStar, mStarT, mStarL, mAugI, mIndex, isi_dict, len_dT, h1', h2', eL, hall]
theorem min_dT {α : Type} (f : α → D) {t : List (Str × α)} (h : 0 < t.length) : ∃ k y, t.lookup k = some y ∧ (k, y) ∈ t ∧ minF (dT f t) = some (.sh (.str k)) := by
  have hne : t.map (·.1) ≠ [] := by intro z; have := congrArg List.length z; simp at this; rw [this] at h; simp at h
  have hm := minS_mem hne
  obtain ⟨y, hy⟩ := Option.isSome_iff_exists.mp (look_some.mp hm)
  refine ⟨_, y, hy, ?_, ?_⟩
  · clear hne h
    induction t with
    | nil => cases hy
    | cons p t ih => exact PySem.mem_of_lookup hy
  · unfold dT
    simp only [minF, min1, keysStr_dT, Option.bind, hne, if_false]
theorem idx_tup2_0 (a b : D) : idxD (.tup [a, b]) (.int 0) = some (.sh a) := rfl
theorem idx_tup2_1 (a b : D) : idxD (.tup [a, b]) (.int 1) = some (.sh b) := rfl
theorem tab_len {dots : List Str} {e : Str} {t : Tab} (h : TabOk dots e t) : t.length = dots.length := by rw [← h.1.length_eq, List.length_map]
theorem nodes_of_ok {M : Mod} (hM : ModW M) (r : R) : f_nodes_of T [dT dP M.rows] r = some (.tmp (.lst (dS M.dots)), r) := by
  obtain ⟨k, p, hk, hkp, hmin⟩ := min_dT dP hM.r1
  obtain ⟨ht1, ht2⟩ := hM.tab _ hkp
  have hi := idx_dT dP hk
  have hi : idxD (dT dP M.rows) (.str k) = some (.sh (.tup [dT dO p.1, dT dO p.2])) := hi
  have hl : p.1.length = M.dots.length := tab_len ht1
  have d1 := hM.d1
  have d2 := hM.d2
  have han := are_names_ok (T := T) dO p.1 6 (by omega) (by omega) (by omega) (fun x hx => hM.dname x (ht1.1.mem_iff.mp hx)) r
  rw [show ((6 : Nat) : Int) = 6 from rfl] at han
  have hs := sort_dT (f := dO) (t := p.1) (by omega)
  rw [sortS_of_perm ht1.1, sortS_self hM.du] at hs
  unfold f_nodes_of m_nodes_of
  simp [fnM, fnR, ent, mSeq, mSet, mV, mC, mOp1, mOp2, mChain, mAnd, mOr, mNot, mIf, mArgs, escAll, esc, soft, pk, hard, put, puts, mHards, mPar, mTup, mLst, mDct0, mCall, mRest, mRt, mRtN, mNx, mEx, mIte, mMut, mPut, mIt, bindT, bindTs, isAtom, isLst, isDK, plainAt, wipeE, backE, mFor, mLc, mDc, mWhile, mBk, mCt, mNo, mSl, mNoP, mPt, mJoin, mRng1, mRng2, mZip, mCallK, pickL, mMeth, mProp, mMake, mFld, fnI, fnIR, mDisp, mPairs, o2I, gtI, geI, leI, mStar, mStarT, mStarL, mAugI, mIndex, hmin, hi, isi_tup, len_tup, ne_int', idx_tup2_0, han, hs]
theorem is_place_ok {dots : List Str} {e x : Str} {y : Option Str} (h : PlaceOk dots e x y) (r : R) : f_is_place T [.lst (dS dots), .str e, .str x, dO y] r = some (.sh (.bl true), r) := by
  unfold f_is_place m_is_place
  rcases h with rfl | rfl | ⟨z, rfl, hz, hne⟩
  · simp [fnM, fnR, ent, mSeq, mSet, mV, mC, mOp1, mOp2, mChain, mAnd, mOr, mNot, mIf, mArgs, escAll, esc, soft, pk, hard, put, puts, mHards, mPar, mTup, mLst, mDct0, mCall, mRest, mRt, mRtN, mNx, mEx, mIte, mMut, mPut, mIt, bindT, bindTs, isAtom, isLst, isDK, plainAt, wipeE, backE, mFor, mLc, mDc, mWhile, mBk, mCt, mNo, mSl, mNoP, mPt, mJoin, mRng1, mRng2, mZip, mCallK, pickL, mMeth, mProp, mMake, mFld, fnI, fnIR, mDisp, mPairs, o2I, gtI, geI, leI, mStar, mStarT, mStarL, mAugI, mIndex, dO, isN]
  · simp [fnM, fnR, ent, mSeq, mSet, mV, mC, mOp1, mOp2, mChain, mAnd, mOr, mNot, mIf, mArgs, escAll, esc, soft, pk, hard, put, puts, mHards, mPar, mTup, mLst, mDct0, mCall, mRest, mRt, mRtN, mNx, mEx, mIte, mMut, mPut, mIt, bindT, bindTs, isAtom, isLst, isDK, plainAt, wipeE, backE, mFor, mLc, mDc, mWhile, mBk, mCt, mNo, mSl, mNoP, mPt, mJoin, mRng1, mRng2, mZip, mCallK, pickL, mMeth, mProp, mMake, mFld, fnI, fnIR, mDisp, mPairs, o2I, gtI, geI, leI, mStar, mStarT, mStarL, mAugI, mIndex, dO, isN, isi_str, eq_str]
  · by_cases h : z = e
    · subst h
      simp [fnM, fnR, ent, mSeq, mSet, mV, mC, mOp1, mOp2, mChain, mAnd, mOr, mNot, mIf, mArgs, escAll, esc, soft, pk, hard, put, puts, mHards, mPar, mTup, mLst, mDct0, mCall, mRest, mRt, mRtN, mNx, mEx, mIte, mMut, mPut, mIt, bindT, bindTs, isAtom, isLst, isDK, plainAt, wipeE, backE, mFor, mLc, mDc, mWhile, mBk, mCt, mNo, mSl, mNoP, mPt, mJoin, mRng1, mRng2, mZip, mCallK, pickL, mMeth, mProp, mMake, mFld, fnI, fnIR, mDisp, mPairs, o2I, gtI, geI, leI, mStar, mStarT, mStarL, mAugI, mIndex, dO, isN, isi_str, eq_str]
    · simp [fnM, fnR, ent, mSeq, mSet, mV, mC, mOp1, mOp2, mChain, mAnd, mOr, mNot, mIf, mArgs, escAll, esc, soft, pk, hard, put, puts, mHards, mPar, mTup, mLst, mDct0, mCall, mRest, mRt, mRtN, mNx, mEx, mIte, mMut, mPut, mIt, bindT, bindTs, isAtom, isLst, isDK, plainAt, wipeE, backE, mFor, mLc, mDc, mWhile, mBk, mCt, mNo, mSl, mNoP, mPt, mJoin, mRng1, mRng2, mZip, mCallK, pickL, mMeth, mProp, mMake, mFld, fnI, fnIR, mDisp, mPairs, o2I, gtI, geI, leI, mStar, mStarT, mStarL, mAugI, mIndex, dO, isN, isi_str, eq_str, h, inD, in_lst, hz, ne_str, hne]
def look (t : Tab) (x : Str) : Option Str := (t.lookup x).getD none
theorem lookup_of_mem {α : Type} : ∀ {t : List (Str × α)} {p : Str × α}, (t.map (·.1)).Nodup → p ∈ t → t.lookup p.1 = some p.2
  | q :: t, p, hn, hp => by
    obtain ⟨k, v⟩ := q
    rw [List.map_cons, List.nodup_cons] at hn
    rw [List.lookup_cons]
    rcases List.mem_cons.mp hp with rfl | hp
    · simp
    · have : p.1 ≠ k := fun z => hn.1 (by rw [← z]; exact List.mem_map_of_mem (f := (·.1)) hp)
      rw [beq_eq_false_iff_ne.mpr this]
      exact lookup_of_mem hn.2 hp
theorem tab_look {dots : List Str} {e : Str} {t : Tab} (h : TabOk dots e t) {x : Str} (hx : x ∈ dots) : t.lookup x = some (look t x) ∧ PlaceOk dots e x (look t x) := by
  have hm : x ∈ t.map (·.1) := h.1.mem_iff.mpr hx
  obtain ⟨y, hy⟩ := Option.isSome_iff_exists.mp (look_some.mp hm)
  have hl : look t x = y := by unfold look; rw [hy]; rfl
  rw [hl]
  exact ⟨hy, h.2 _ (PySem.mem_of_lookup hy)⟩
theorem in_dT_true {α : Type} (f : α → D) {k : Str} {t : List (Str × α)} (h : k ∈ t.map (·.1)) : inB (.str k) (dT f t) = some true := by rw [in_dT, decide_eq_true h]
theorem in_dT_false {α : Type} (f : α → D) {k : Str} {t : List (Str × α)} (h : k ∉ t.map (·.1)) : inB (.str k) (dT f t) = some false := by rw [in_dT, decide_eq_false h]
theorem is_table_ok {dots : List Str} {e : Str} {t : Tab} (h : TabOk dots e t) (hl : dots.length < 100) (r : R) : f_is_table T [.lst (dS dots), .str e, dT dO t] r = some (.sh (.bl true), r) := by
  unfold f_is_table m_is_table
  generalize hL1 : mLc _ _ _ _ (mOp2 inD _ _) = L1
  generalize hL2 : mLc _ _ _ _ _ = L2
  have eL1 : L1 ⟨[some ⟨.lst (dS dots), false⟩, some ⟨.str e, false⟩, some ⟨dT dO t, false⟩, none], r⟩ = some (.tmp (.lst (dots.map fun _ => .bl true)), ⟨[some ⟨.lst (dS dots), false⟩, some ⟨.str e, false⟩, some ⟨dT dO t, false⟩, none], r⟩) := by
    rw [← hL1]
    refine mLc_all D.str (fun _ => .bl true) dots ?_ (by rfl) (fun x hx => ?_) (by unfold sizeLine; omega)
    · simp [fnM, fnR, ent, mSeq, mSet, mV, mC, mOp1, mOp2, mChain, mAnd, mOr, mNot, mIf, mArgs, escAll, esc, soft, pk, hard, put, puts, mHards, mPar, mTup, mLst, mDct0, mCall, mRest, mRt, mRtN, mNx, mEx, mIte, mMut, mPut, mIt, bindT, bindTs, isAtom, isLst, isDK, plainAt, wipeE, backE, mFor, mLc, mDc, mWhile, mBk, mCt, mNo, mSl, mNoP, mPt, mJoin, mRng1, mRng2, mZip, mCallK, pickL, mMeth, mProp, mMake, mFld, fnI, fnIR, mDisp, mPairs, o2I, gtI, geI, leI, mStar, mStarT, mStarL, mAugI, mIndex, itemsOf, dS]
    · have hm : x ∈ t.map (·.1) := h.1.mem_iff.mpr hx
      simp [fnM, fnR, ent, mSeq, mSet, mV, mC, mOp1, mOp2, mChain, mAnd, mOr, mNot, mIf, mArgs, escAll, esc, soft, pk, hard, put, puts, mHards, mPar, mTup, mLst, mDct0, mCall, mRest, mRt, mRtN, mNx, mEx, mIte, mMut, mPut, mIt, bindT, bindTs, isAtom, isLst, isDK, plainAt, wipeE, backE, mFor, mLc, mDc, mWhile, mBk, mCt, mNo, mSl, mNoP, mPt, mJoin, mRng1, mRng2, mZip, mCallK, pickL, mMeth, mProp, mMake, mFld, fnI, fnIR, mDisp, mPairs, o2I, gtI, geI, leI, mStar, mStarT, mStarL, mAugI, mIndex, inD, in_dT_true dO hm]
  have eL2 : L2 ⟨[some ⟨.lst (dS dots), false⟩, some ⟨.str e, false⟩, some ⟨dT dO t, false⟩, none], r⟩ = some (.tmp (.lst (dots.map fun _ => .bl true)), ⟨[some ⟨.lst (dS dots), false⟩, some ⟨.str e, false⟩, some ⟨dT dO t, false⟩, none], r⟩) := by
    rw [← hL2]
    refine mLc_all D.str (fun _ => .bl true) dots ?_ (by rfl) (fun x hx => ?_) (by unfold sizeLine; omega)
    · simp [fnM, fnR, ent, mSeq, mSet, mV, mC, mOp1, mOp2, mChain, mAnd, mOr, mNot, mIf, mArgs, escAll, esc, soft, pk, hard, put, puts, mHards, mPar, mTup, mLst, mDct0, mCall, mRest, mRt, mRtN, mNx, mEx, mIte, mMut, mPut, mIt, bindT, bindTs, isAtom, isLst, isDK, plainAt, wipeE, backE, mFor, mLc, mDc, mWhile, mBk, mCt, mNo, mSl, mNoP, mPt, mJoin, mRng1, mRng2, mZip, mCallK, pickL, mMeth, mProp, mMake, mFld, fnI, fnIR, mDisp, mPairs, o2I, gtI, geI, leI, mStar, mStarT, mStarL, mAugI, mIndex, itemsOf, dS]
    · obtain ⟨h1, h2⟩ := tab_look h hx
      simp [fnM, fnR, ent, mSeq, mSet, mV, mC, mOp1, mOp2, mChain, mAnd, mOr, mNot, mIf, mArgs, escAll, esc, soft, pk, hard, put, puts, mHards, mPar, mTup, mLst, mDct0, mCall, mRest, mRt, mRtN, mNx, mEx, mIte, mMut, mPut, mIt, bindT, bindTs, isAtom, isLst, isDK, plainAt, wipeE, backE, mFor, mLc, mDc, mWhile, mBk, mCt, mNo, mSl, mNoP, mPt, mJoin, mRng1, mRng2, mZip, mCallK, pickL, mMeth, mProp, mMake, mFld, fnI, fnIR, mDisp, mPairs, o2I, gtI, geI, leI, mStar, mStarT, mStarL, mAugI, mIndex, idx_dT dO h1, is_place_ok h2]
  simp [fnM, fnR, ent, mSeq, mSet, mV, mC, mOp1, mOp2, mChain, mAnd, mOr, mNot, mIf, mArgs, escAll, esc, soft, pk, hard, put, puts, mHards, mPar, mTup, mLst, mDct0, mCall, mRest, mRt, mRtN, mNx, mEx, mIte, mMut, mPut, mIt, bindT, bindTs, isAtom, isLst, isDK, plainAt, wipeE, backE, mFor, mLc, mDc, mWhile, mBk, mCt, mNo, mSl, mNoP, mPt, mJoin, mRng1, mRng2, mZip, mCallK, pickL, mMeth, mProp, mMake, mFld, fnI, fnIR, mDisp, mPairs, o2I, gtI, geI, leI, mStar, mStarT, mStarL, mAugI, mIndex, isi_dict, len_dT, len_lst, ne_int', tab_len h, dS_length, eL1, eL2, all_true]
theorem are_tables_ok {M : Mod} (hM : ModW M) (r : R) : f_are_tables T [dT dP M.rows] r = some (.sh (.bl true), r) := by
  suffices h : Ev (f_are_tables T [dT dP M.rows] r) (fun v r' => v = .sh (.bl true) ∧ r' = r) by
    obtain ⟨v, r', e, rfl, rfl⟩ := h
    exact e
  have h1 := hM.r1
  have h2 := hM.r2
  have d2 := hM.d2
  have han := are_names_ok (T := T) dP M.rows 2 h1 h2 (by omega) (fun x hx => by
    obtain ⟨p, hp, rfl⟩ := List.mem_map.mp hx
    exact hM.rname p hp) r
  rw [show ((2 : Nat) : Int) = 2 from rfl] at han
  have hno := nodes_of_ok (T := T) hM r
  unfold f_are_tables m_are_tables
  generalize hL : mLc _ _ _ _ _ = L
  generalize hF : mFor _ _ _ = F1
  have eL : L ⟨[some ⟨dT dP M.rows, false⟩, some ⟨.lst (dS M.dots), true⟩, none, none, none], r⟩ = some (.tmp (.lst ((M.dots.map fun _ => false).map D.bl)), ⟨[some ⟨dT dP M.rows, false⟩, some ⟨.lst (dS M.dots), false⟩, none, none, none], r⟩) := by
    rw [← hL, List.map_map]
    refine mLc_all D.str (fun _ => .bl false) M.dots ?_ (by rfl) (fun x hx => ?_) (by unfold sizeLine; omega)
    · simp [fnM, fnR, ent, mSeq, mSet, mV, mC, mOp1, mOp2, mChain, mAnd, mOr, mNot, mIf, mArgs, escAll, esc, soft, pk, hard, put, puts, mHards, mPar, mTup, mLst, mDct0, mCall, mRest, mRt, mRtN, mNx, mEx, mIte, mMut, mPut, mIt, bindT, bindTs, isAtom, isLst, isDK, plainAt, wipeE, backE, mFor, mLc, mDc, mWhile, mBk, mCt, mNo, mSl, mNoP, mPt, mJoin, mRng1, mRng2, mZip, mCallK, pickL, mMeth, mProp, mMake, mFld, fnI, fnIR, mDisp, mPairs, o2I, gtI, geI, leI, mStar, mStarT, mStarL, mAugI, mIndex, itemsOf, dS]
    · have hx' : x ∉ M.rows.map (·.1) := fun z => by
        obtain ⟨p, hp, rfl⟩ := List.mem_map.mp z
        exact hM.rdot p hp hx
      simp [fnM, fnR, ent, mSeq, mSet, mV, mC, mOp1, mOp2, mChain, mAnd, mOr, mNot, mIf, mArgs, escAll, esc, soft, pk, hard, put, puts, mHards, mPar, mTup, mLst, mDct0, mCall, mRest, mRt, mRtN, mNx, mEx, mIte, mMut, mPut, mIt, bindT, bindTs, isAtom, isLst, isDK, plainAt, wipeE, backE, mFor, mLc, mDc, mWhile, mBk, mCt, mNo, mSl, mNoP, mPt, mJoin, mRng1, mRng2, mZip, mCallK, pickL, mMeth, mProp, mMake, mFld, fnI, fnIR, mDisp, mPairs, o2I, gtI, geI, leI, mStar, mStarT, mStarL, mAugI, mIndex, inD, in_dT_false dP hx']
  have hany : anyD (.lst ((M.dots.map fun _ => false).map D.bl)) = some (.sh (.bl false)) := by
    rw [any_bl]
    have : (M.dots.map fun _ => false).any id = false := by simp
    rw [this]
  rw [show (M.dots.map fun _ => false).map D.bl = M.dots.map fun _ => D.bl false by rw [List.map_map]; rfl] at eL hany
  simp [fnM, fnR, ent, mSeq, mSet, mV, mC, mOp1, mOp2, mChain, mAnd, mOr, mNot, mIf, mArgs, escAll, esc, soft, pk, hard, put, puts, mHards, mPar, mTup, mLst, mDct0, mCall, mRest, mRt, mRtN, mNx, mEx, mIte, mMut, mPut, mIt, bindT, bindTs, isAtom, isLst, isDK, plainAt, wipeE, backE, mFor, mLc, mDc, mWhile, mBk, mCt, mNo, mSl, mNoP, mPt, mJoin, mRng1, mRng2, mZip, mCallK, pickL, mMeth, mProp, mMake, mFld, fnI, fnIR, mDisp, mPairs, o2I, gtI, geI, leI, mStar, mStarT, mStarL, mAugI, mIndex, han, hno, isN, eL, hany]
  subst hF
  refine mFor_ev (ds := dS (M.rows.map (·.1))) (s1 := ⟨[some ⟨dT dP M.rows, false⟩, some ⟨.lst (dS M.dots), false⟩, none, none, none], r⟩) (by simp [fnM, fnR, ent, mSeq, mSet, mV, mC, mOp1, mOp2, mChain, mAnd, mOr, mNot, mIf, mArgs, escAll, esc, soft, pk, hard, put, puts, mHards, mPar, mTup, mLst, mDct0, mCall, mRest, mRt, mRtN, mNx, mEx, mIte, mMut, mPut, mIt, bindT, bindTs, isAtom, isLst, isDK, plainAt, wipeE, backE, mFor, mLc, mDc, mWhile, mBk, mCt, mNo, mSl, mNoP, mPt, mJoin, mRng1, mRng2, mZip, mCallK, pickL, mMeth, mProp, mMake, mFld, fnI, fnIR, mDisp, mPairs, o2I, gtI, geI, leI, mStar, mStarT, mStarL, mAugI, mIndex, items_dT]) ?_
  let I : List D → S R → Prop := fun ds s => ∃ (post : List Str) (a2 a3 : Option Cell), ds = dS post ∧ s = ⟨[some ⟨dT dP M.rows, false⟩, some ⟨.lst (dS M.dots), false⟩, a2, a3, none], r⟩ ∧ ∀ x ∈ post, x ∈ M.rows.map (·.1)
  refine (for_ev I (fun fl s => fl = .nx ∧ I [] s) (fun d ds s hs => ?_) (fun s hs => ⟨rfl, hs⟩) _ _ ⟨_, none, none, rfl, rfl, fun x hx => hx⟩).mono ?_
  · obtain ⟨post, a2, a3, hd, rfl, g1⟩ := hs
    match post, hd, g1 with
    | x :: post, hd, g1 =>
      obtain ⟨rfl, rfl⟩ : d = .str x ∧ ds = dS post := List.cons.inj hd
      obtain ⟨⟨x', p⟩, hp, rfl⟩ := List.mem_map.mp (g1 x List.mem_cons_self)
      obtain ⟨ht1, ht2⟩ := hM.tab _ hp
      have hi : idxD (dT dP M.rows) (.str x') = some (.sh (.tup [dT dO p.1, dT dO p.2])) := idx_dT dP (lookup_of_mem hM.rn hp)
      have q1 := is_table_ok (T := T) ht1 (by omega) r
      have q2 := is_table_ok (T := T) ht2 (by omega) r
      simp [fnM, fnR, ent, mSeq, mSet, mV, mC, mOp1, mOp2, mChain, mAnd, mOr, mNot, mIf, mArgs, escAll, esc, soft, pk, hard, put, puts, mHards, mPar, mTup, mLst, mDct0, mCall, mRest, mRt, mRtN, mNx, mEx, mIte, mMut, mPut, mIt, bindT, bindTs, isAtom, isLst, isDK, plainAt, wipeE, backE, mFor, mLc, mDc, mWhile, mBk, mCt, mNo, mSl, mNoP, mPt, mJoin, mRng1, mRng2, mZip, mCallK, pickL, mMeth, mProp, mMake, mFld, fnI, fnIR, mDisp, mPairs, o2I, gtI, geI, leI, mStar, mStarT, mStarL, mAugI, mIndex, hi, isi_tup, len_tup, ne_int', idx_tup2_0, idx_tup2_1, q1, q2]
      exact ⟨post, _, _, rfl, rfl, fun y hy => g1 y (List.mem_cons_of_mem _ hy)⟩
  · rintro fl s ⟨rfl, post, a2, a3, hd, rfl, g1⟩
    simp
theorem dd_self {xs : List Str} (h : xs.Nodup) : SetTx.ddS xs = xs := by
  have key : ∀ (ys acc : List Str), (acc ++ ys).Nodup → ys.foldl (fun acc x => if acc.any (· == x) then acc else acc ++ [x]) acc = acc ++ ys := by
    intro ys
    induction ys with
    | nil => intro acc _; simp
    | cons y ys ih =>
      intro acc hn
      rw [List.foldl_cons]
      have hy : acc.any (· == y) = false := by
        rw [List.any_eq_false]
        intro x hx z
        have : x = y := by simpa using z
        subst this
        exact (List.nodup_append.mp hn).2.2 x hx x List.mem_cons_self rfl
      rw [hy]
      simp only [Bool.false_eq_true, if_false]
      rw [ih (acc ++ [y]) (by simpa using hn)]
      simp
  have := key xs [] (by simpa using h)
  simpa [SetTx.ddS] using this
theorem are_nodes_ok {dots xs : List Str} (hs : ∀ x ∈ xs, x ∈ dots) (hn : xs.Nodup) (hl : xs.length < 100) (r : R) : f_are_nodes T [.lst (dS dots), .lst (dS xs)] r = some (.sh (.bl true), r) := by
  have h1 : f_is_list T [.lst (dS xs)] r = some (.sh (.bl true), r) := rfl
  unfold f_are_nodes m_are_nodes
  generalize hL : mLc _ _ _ _ _ = L
  have eL : L ⟨[some ⟨.lst (dS dots), false⟩, some ⟨.lst (dS xs), false⟩, none], r⟩ = some (.tmp (.lst (xs.map fun _ => .bl true)), ⟨[some ⟨.lst (dS dots), false⟩, some ⟨.lst (dS xs), false⟩, none], r⟩) := by
    rw [← hL]
    refine mLc_all D.str (fun _ => .bl true) xs ?_ (by rfl) (fun x hx => ?_) (by unfold sizeLine; omega)
    · simp [fnM, fnR, ent, mSeq, mSet, mV, mC, mOp1, mOp2, mChain, mAnd, mOr, mNot, mIf, mArgs, escAll, esc, soft, pk, hard, put, puts, mHards, mPar, mTup, mLst, mDct0, mCall, mRest, mRt, mRtN, mNx, mEx, mIte, mMut, mPut, mIt, bindT, bindTs, isAtom, isLst, isDK, plainAt, wipeE, backE, mFor, mLc, mDc, mWhile, mBk, mCt, mNo, mSl, mNoP, mPt, mJoin, mRng1, mRng2, mZip, mCallK, pickL, mMeth, mProp, mMake, mFld, fnI, fnIR, mDisp, mPairs, o2I, gtI, geI, leI, mStar, mStarT, mStarL, mAugI, mIndex, itemsOf, dS]
    · simp [fnM, fnR, ent, mSeq, mSet, mV, mC, mOp1, mOp2, mChain, mAnd, mOr, mNot, mIf, mArgs, escAll, esc, soft, pk, hard, put, puts, mHards, mPar, mTup, mLst, mDct0, mCall, mRest, mRt, mRtN, mNx, mEx, mIte, mMut, mPut, mIt, bindT, bindTs, isAtom, isLst, isDK, plainAt, wipeE, backE, mFor, mLc, mDc, mWhile, mBk, mCt, mNo, mSl, mNoP, mPt, mJoin, mRng1, mRng2, mZip, mCallK, pickL, mMeth, mProp, mMake, mFld, fnI, fnIR, mDisp, mPairs, o2I, gtI, geI, leI, mStar, mStarT, mStarL, mAugI, mIndex, isi_str, inD, in_lst, hs x hx]
  have hls : lenSetD (.lst (dS xs)) = some (.sh (.int xs.length)) := by
    have h4 : xs.length < 4000 := by omega
    simp only [lenSetD, strsOf_dS, Option.bind, h4, if_true, dd_self hn]
  simp [fnM, fnR, ent, mSeq, mSet, mV, mC, mOp1, mOp2, mChain, mAnd, mOr, mNot, mIf, mArgs, escAll, esc, soft, pk, hard, put, puts, mHards, mPar, mTup, mLst, mDct0, mCall, mRest, mRt, mRtN, mNx, mEx, mIte, mMut, mPut, mIt, bindT, bindTs, isAtom, isLst, isDK, plainAt, wipeE, backE, mFor, mLc, mDc, mWhile, mBk, mCt, mNo, mSl, mNoP, mPt, mJoin, mRng1, mRng2, mZip, mCallK, pickL, mMeth, mProp, mMake, mFld, fnI, fnIR, mDisp, mPairs, o2I, gtI, geI, leI, mStar, mStarT, mStarL, mAugI, mIndex, h1, eL, all_true, hls, len_lst, dS_length, eq_int']
theorem are_nodesT_ok {dots xs : List Str} (hs : ∀ x ∈ xs, x ∈ dots) (hn : xs.Nodup) (hl : xs.length < 100) (r : R) : f_are_nodes T [.lst (dS dots), .tup (dS xs)] r = some (.sh (.bl true), r) := by
  have h1 : f_is_list T [.tup (dS xs)] r = some (.sh (.bl true), r) := rfl
  unfold f_are_nodes m_are_nodes
  generalize hL : mLc _ _ _ _ _ = L
  have eL : L ⟨[some ⟨.lst (dS dots), false⟩, some ⟨.tup (dS xs), false⟩, none], r⟩ = some (.tmp (.lst (xs.map fun _ => .bl true)), ⟨[some ⟨.lst (dS dots), false⟩, some ⟨.tup (dS xs), false⟩, none], r⟩) := by
    rw [← hL]
    refine mLc_all D.str (fun _ => .bl true) xs ?_ (by rfl) (fun x hx => ?_) (by unfold sizeLine; omega)
    · simp [fnM, fnR, ent, mSeq, mSet, mV, mC, mOp1, mOp2, mChain, mAnd, mOr, mNot, mIf, mArgs, escAll, esc, soft, pk, hard, put, puts, mHards, mPar, mTup, mLst, mDct0, mCall, mRest, mRt, mRtN, mNx, mEx, mIte, mMut, mPut, mIt, bindT, bindTs, isAtom, isLst, isDK, plainAt, wipeE, backE, mFor, mLc, mDc, mWhile, mBk, mCt, mNo, mSl, mNoP, mPt, mJoin, mRng1, mRng2, mZip, mCallK, pickL, mMeth, mProp, mMake, mFld, fnI, fnIR, mDisp, mPairs, o2I, gtI, geI, leI, mStar, mStarT, mStarL, mAugI, mIndex, itemsOf, dS]
    · simp [fnM, fnR, ent, mSeq, mSet, mV, mC, mOp1, mOp2, mChain, mAnd, mOr, mNot, mIf, mArgs, escAll, esc, soft, pk, hard, put, puts, mHards, mPar, mTup, mLst, mDct0, mCall, mRest, mRt, mRtN, mNx, mEx, mIte, mMut, mPut, mIt, bindT, bindTs, isAtom, isLst, isDK, plainAt, wipeE, backE, mFor, mLc, mDc, mWhile, mBk, mCt, mNo, mSl, mNoP, mPt, mJoin, mRng1, mRng2, mZip, mCallK, pickL, mMeth, mProp, mMake, mFld, fnI, fnIR, mDisp, mPairs, o2I, gtI, geI, leI, mStar, mStarT, mStarL, mAugI, mIndex, isi_str, inD, in_lst, hs x hx]
  have hls : lenSetD (.tup (dS xs)) = some (.sh (.int xs.length)) := by
    have h4 : xs.length < 4000 := by omega
    simp only [lenSetD, strsOf_dS, Option.bind, h4, if_true, dd_self hn]
  simp [fnM, fnR, ent, mSeq, mSet, mV, mC, mOp1, mOp2, mChain, mAnd, mOr, mNot, mIf, mArgs, escAll, esc, soft, pk, hard, put, puts, mHards, mPar, mTup, mLst, mDct0, mCall, mRest, mRt, mRtN, mNx, mEx, mIte, mMut, mPut, mIt, bindT, bindTs, isAtom, isLst, isDK, plainAt, wipeE, backE, mFor, mLc, mDc, mWhile, mBk, mCt, mNo, mSl, mNoP, mPt, mJoin, mRng1, mRng2, mZip, mCallK, pickL, mMeth, mProp, mMake, mFld, fnI, fnIR, mDisp, mPairs, o2I, gtI, geI, leI, mStar, mStarT, mStarL, mAugI, mIndex, h1, eL, all_true, hls, len_tup, dS_length, eq_int']
/-- the table with ascending keys -/
def ordT (dots : List Str) (t : Tab) : Tab := dots.map fun x => (x, look t x)
theorem ordered_ok {dots : List Str} {e : Str} {t : Tab} (h : TabOk dots e t) (hu : Up dots) (hn : dots.Nodup) (hl : dots.length < 60) (r : R) : f_ordered T [dT dO t] r = some (.tmp (dT dO (ordT dots t)), r) := by
  have hs := sort_dT (f := dO) (t := t) (by rw [tab_len h]; omega)
  rw [sortS_of_perm h.1, sortS_self hu] at hs
  unfold f_ordered m_ordered
  generalize hL : mDc _ _ _ _ _ _ = L
  have eL : L ⟨[some ⟨dT dO t, false⟩, none], r⟩ = some (.tmp (.dct false (dots.map fun x => (.str x, dO (look t x)))), ⟨[some ⟨dT dO t, false⟩, none], r⟩) := by
    rw [← hL]
    refine mDc_enc D.str (fun x => x) (fun x => dO (look t x)) dots ?_ (by rfl) (fun x hx => ?_) (by unfold sizeLine; omega) (by simpa using hn)
    · simp [fnM, fnR, ent, mSeq, mSet, mV, mC, mOp1, mOp2, mChain, mAnd, mOr, mNot, mIf, mArgs, escAll, esc, soft, pk, hard, put, puts, mHards, mPar, mTup, mLst, mDct0, mCall, mRest, mRt, mRtN, mNx, mEx, mIte, mMut, mPut, mIt, bindT, bindTs, isAtom, isLst, isDK, plainAt, wipeE, backE, mFor, mLc, mDc, mWhile, mBk, mCt, mNo, mSl, mNoP, mPt, mJoin, mRng1, mRng2, mZip, mCallK, pickL, mMeth, mProp, mMake, mFld, fnI, fnIR, mDisp, mPairs, o2I, gtI, geI, leI, mStar, mStarT, mStarL, mAugI, mIndex, hs, itemsOf, dS]
    · simp [fnM, fnR, ent, mSeq, mSet, mV, mC, mOp1, mOp2, mChain, mAnd, mOr, mNot, mIf, mArgs, escAll, esc, soft, pk, hard, put, puts, mHards, mPar, mTup, mLst, mDct0, mCall, mRest, mRt, mRtN, mNx, mEx, mIte, mMut, mPut, mIt, bindT, bindTs, isAtom, isLst, isDK, plainAt, wipeE, backE, mFor, mLc, mDc, mWhile, mBk, mCt, mNo, mSl, mNoP, mPt, mJoin, mRng1, mRng2, mZip, mCallK, pickL, mMeth, mProp, mMake, mFld, fnI, fnIR, mDisp, mPairs, o2I, gtI, geI, leI, mStar, mStarT, mStarL, mAugI, mIndex, idx_dT dO (tab_look h hx).1]
  have e2 : D.dct false (dots.map fun x => (.str x, dO (look t x))) = dT dO (ordT dots t) := by
    unfold dT ordT
    rw [List.map_map]; rfl
  rw [e2] at eL
  simp [fnM, fnR, ent, mSeq, mSet, mV, mC, mOp1, mOp2, mChain, mAnd, mOr, mNot, mIf, mArgs, escAll, esc, soft, pk, hard, put, puts, mHards, mPar, mTup, mLst, mDct0, mCall, mRest, mRt, mRtN, mNx, mEx, mIte, mMut, mPut, mIt, bindT, bindTs, isAtom, isLst, isDK, plainAt, wipeE, backE, mFor, mLc, mDc, mWhile, mBk, mCt, mNo, mSl, mNoP, mPt, mJoin, mRng1, mRng2, mZip, mCallK, pickL, mMeth, mProp, mMake, mFld, fnI, fnIR, mDisp, mPairs, o2I, gtI, geI, leI, mStar, mStarT, mStarL, mAugI, mIndex, eL]
theorem ordT_look {dots : List Str} {t : Tab} {x : Str} (hx : x ∈ dots) : (ordT dots t).lookup x = some (look t x) := by
  unfold ordT
  induction dots with
  | nil => cases hx
  | cons y ys ih =>
    rw [List.map_cons, List.lookup_cons]
    by_cases h : x = y
    · subst h; simp
    · rw [beq_eq_false_iff_ne.mpr h]
      exact ih ((List.mem_cons.mp hx).resolve_left h)
end
end RW
namespace RW
open PySem L2
/-! ### the net of a model -/
def chg (M : Mod) (x : Str) : Bool := M.rows.any fun p => !decide (look p.2.1 x = look p.2.2 x)
def changing (M : Mod) : List Str := M.dots.filter (chg M)
def ordR (M : Mod) : List (Str × (Tab × Tab)) := M.rows.map fun p => (p.1, (ordT M.dots p.2.1, ordT M.dots p.2.2))
def netF (M : Mod) : List (Str × D) := [("own_tables", dT dP (ordR M)), ("own_goals", .tup (dS (M.rows.map (·.1)))), ("own_nodes", .tup (dS M.dots)), ("own_sources", .tup (dS M.sources)), ("own_posts", .tup (dS M.posts)), ("own_changing", .tup (dS (changing M)))]
def netD (M : Mod) : D := .obj 0 (netF M)
section
variable {R : Type} {T : Fm R}
theorem vals_dT {α : Type} (f : α → D) (t : List (Str × α)) : valsOf (dT f t) = some (t.map fun p => f p.2) := by simp [dT, valsOf]
theorem fld_tables (a : D) (fs : List (Str × D)) : fldD 0 "own_tables" (.obj 0 (("own_tables", a) :: fs)) = some (.sh a) := rfl
theorem does_change_ok {M : Mod} (hM : ModOk M) {x : Str} (hx : x ∈ M.dots) (fs : List (Str × D)) (r : R) : f_Net_does_change T [.obj 0 (("own_tables", dT dP (ordR M)) :: fs), .str x] r = some (.sh (.bl (chg M x)), r) := by
  unfold f_Net_does_change m_Net_does_change
  generalize hL : mLc _ _ _ _ _ = L
  have eL : L ⟨[some ⟨.obj 0 (("own_tables", dT dP (ordR M)) :: fs), false⟩, some ⟨.str x, false⟩, none], r⟩ = some (.tmp (.lst (M.rows.map fun p => .bl (!decide (look p.2.1 x = look p.2.2 x)))), ⟨[some ⟨.obj 0 (("own_tables", dT dP (ordR M)) :: fs), false⟩, some ⟨.str x, false⟩, none], r⟩) := by
    rw [← hL]
    refine mLc_all (fun p : Str × (Tab × Tab) => .tup [dT dO (ordT M.dots p.2.1), dT dO (ordT M.dots p.2.2)]) (fun p => .bl (!decide (look p.2.1 x = look p.2.2 x))) M.rows ?_ (by rfl) (fun p hp => ?_) (by have := hM.r2; unfold sizeLine; omega)
    · simp [fnM, fnR, ent, mSeq, mSet, mV, mC, mOp1, mOp2, mChain, mAnd, mOr, mNot, mIf, mArgs, escAll, esc, soft, pk, hard, put, puts, mHards, mPar, mTup, mLst, mDct0, mCall, mRest, mRt, mRtN, mNx, mEx, mIte, mMut, mPut, mIt, bindT, bindTs, isAtom, isLst, isDK, plainAt, wipeE, backE, mFor, mLc, mDc, mWhile, mBk, mCt, mNo, mSl, mNoP, mPt, mJoin, mRng1, mRng2, mZip, mCallK, pickL, mMeth, mProp, mMake, mFld, fnI, fnIR, mDisp, mPairs, o2I, gtI, geI, leI, mStar, mStarT, mStarL, mAugI, mIndex, fld_tables, vals_dT, ordR, Function.comp_def, dP]
    · simp [fnM, fnR, ent, mSeq, mSet, mV, mC, mOp1, mOp2, mChain, mAnd, mOr, mNot, mIf, mArgs, escAll, esc, soft, pk, hard, put, puts, mHards, mPar, mTup, mLst, mDct0, mCall, mRest, mRt, mRtN, mNx, mEx, mIte, mMut, mPut, mIt, bindT, bindTs, isAtom, isLst, isDK, plainAt, wipeE, backE, mFor, mLc, mDc, mWhile, mBk, mCt, mNo, mSl, mNoP, mPt, mJoin, mRng1, mRng2, mZip, mCallK, pickL, mMeth, mProp, mMake, mFld, fnI, fnIR, mDisp, mPairs, o2I, gtI, geI, leI, mStar, mStarT, mStarL, mAugI, mIndex, idx_tup2_0, idx_tup2_1, idx_dT dO (ordT_look (t := p.2.1) hx), idx_dT dO (ordT_look (t := p.2.2) hx), ne_dO]
  have hany : anyD (.lst (M.rows.map fun p => .bl (!decide (look p.2.1 x = look p.2.2 x)))) = some (.sh (.bl (chg M x))) := by
    have := any_bl (M.rows.map fun p => !decide (look p.2.1 x = look p.2.2 x))
    rw [List.map_map, List.any_map] at this
    exact this
  simp [fnM, fnR, ent, mSeq, mSet, mV, mC, mOp1, mOp2, mChain, mAnd, mOr, mNot, mIf, mArgs, escAll, esc, soft, pk, hard, put, puts, mHards, mPar, mTup, mLst, mDct0, mCall, mRest, mRt, mRtN, mNx, mEx, mIte, mMut, mPut, mIt, bindT, bindTs, isAtom, isLst, isDK, plainAt, wipeE, backE, mFor, mLc, mDc, mWhile, mBk, mCt, mNo, mSl, mNoP, mPt, mJoin, mRng1, mRng2, mZip, mCallK, pickL, mMeth, mProp, mMake, mFld, fnI, fnIR, mDisp, mPairs, o2I, gtI, geI, leI, mStar, mStarT, mStarL, mAugI, mIndex, eL, hany]
def sq (b : Bool) (xs : List Str) : D := if b = true then .tup (dS xs) else .lst (dS xs)
theorem sort_sq {xs : List Str} (b : Bool) (h : xs.length < 64) (hu : Up xs) : sortG (sq b xs) = some (.tmp (.lst (dS xs))) := by
  cases b
  · show sortF (.lst (dS xs)) = _
    rw [sort_dS h, sortS_self hu]
  · have : sortTp (.tup (dS xs)) = some (.tmp (.lst (dS xs))) := by
      show (strsOf (dS xs)).bind _ = _
      rw [strsOf_dS]
      show (if xs.length < 64 then some (Vr.tmp (.lst ((sortS xs).map D.str))) else none) = _
      rw [if_pos h, sortS_self hu]; rfl
    show (match sortTp (.tup (dS xs)) with | some r => some r | none => sortF (.tup (dS xs))) = _
    rw [this]
theorem nodes_sq {dots xs : List Str} (b : Bool) (hs : ∀ x ∈ xs, x ∈ dots) (hn : xs.Nodup) (hl : xs.length < 100) (r : R) : f_are_nodes T [.lst (dS dots), sq b xs] r = some (.sh (.bl true), r) := by
  cases b
  · exact are_nodes_ok hs hn hl r
  · exact are_nodesT_ok hs hn hl r
theorem len_sq (b : Bool) (xs : List Str) : lenD (sq b xs) = some (.sh (.int xs.length)) := by
  cases b
  · have := len_lst (dS xs); rw [dS_length] at this; exact this
  · have := len_tup (dS xs); rw [dS_length] at this; exact this
theorem tup_sq (b : Bool) (xs : List Str) : tup1 (sq b xs) = some (.sh (.tup (dS xs))) := by cases b <;> rfl
theorem net_gen2 {M : Mod} (hM : ModOk M) {rows : List (Str × (Tab × Tab))} (hp : rows.Perm M.rows) (b c : Bool) (r : R) : i_Net___init__ T [dT dP rows, sq b M.sources, sq c M.posts] r = some (netF M, r) := by
  have hrn : (rows.map (·.1)).Nodup := (hp.map _).nodup_iff.mpr hM.rn
  have hW : ModW ⟨rows, M.dots, M.sources, M.posts⟩ := ⟨by show 0 < rows.length; rw [hp.length_eq]; exact hM.r1, by show rows.length ≤ 2; rw [hp.length_eq]; exact hM.r2, hrn, fun p h => hM.rname p (hp.mem_iff.mp h), fun p h => hM.rdot p (hp.mem_iff.mp h), fun p h => hM.tab p (hp.mem_iff.mp h), hM.d1, hM.d2, hM.dn, hM.du, hM.dname, hM.sn, hM.su, hM.ssub, hM.pn, hM.p2, hM.psub⟩
  have d2 := hM.d2
  have r2 := hM.r2
  have p2 := hM.p2
  have hsl : M.sources.length ≤ M.dots.length := sub_len hM.sn hM.ssub
  have q1 : f_are_tables T [dT dP rows] r = _ := are_tables_ok (T := T) hW r
  have q2 : f_nodes_of T [dT dP rows] r = _ := nodes_of_ok (T := T) hW r
  have q3 := nodes_sq (T := T) b hM.ssub hM.sn (by omega) r
  have q4 := nodes_sq (T := T) c hM.psub hM.pn (by omega) r
  have hsr : sortG (dT dP rows) = some (.tmp (.lst (dS (M.rows.map (·.1))))) := by
    show sortF (dT dP rows) = _
    rw [sort_dT (by rw [hp.length_eq]; omega), sortS_of_perm (hp.map _), sortS_self hM.ru]
  have hss := sort_sq (xs := M.sources) b (by omega) hM.su
  have hlp := len_sq c M.posts
  have htp := tup_sq c M.posts
  have p1 : ∀ a : D, putFD "own_tables" a ([] : List (Str × D)) = ([("own_tables", a)] : List (Str × D)) := fun _ => rfl
  have pp2 : ∀ a b : D, putFD "own_goals" b ([("own_tables", a)] : List (Str × D)) = ([("own_tables", a), ("own_goals", b)] : List (Str × D)) := fun _ _ => rfl
  have p3 : ∀ a b c : D, putFD "own_nodes" c ([("own_tables", a), ("own_goals", b)] : List (Str × D)) = ([("own_tables", a), ("own_goals", b), ("own_nodes", c)] : List (Str × D)) := fun _ _ _ => rfl
  have p4 : ∀ a b c d : D, putFD "own_sources" d ([("own_tables", a), ("own_goals", b), ("own_nodes", c)] : List (Str × D)) = ([("own_tables", a), ("own_goals", b), ("own_nodes", c), ("own_sources", d)] : List (Str × D)) := fun _ _ _ _ => rfl
  have p5 : ∀ a b c d e : D, putFD "own_posts" e ([("own_tables", a), ("own_goals", b), ("own_nodes", c), ("own_sources", d)] : List (Str × D)) = ([("own_tables", a), ("own_goals", b), ("own_nodes", c), ("own_sources", d), ("own_posts", e)] : List (Str × D)) := fun _ _ _ _ _ => rfl
  have p6 : ∀ a b c d e f : D, putFD "own_changing" f ([("own_tables", a), ("own_goals", b), ("own_nodes", c), ("own_sources", d), ("own_posts", e)] : List (Str × D)) = ([("own_tables", a), ("own_goals", b), ("own_nodes", c), ("own_sources", d), ("own_posts", e), ("own_changing", f)] : List (Str × D)) := fun _ _ _ _ _ _ => rfl
  have tup_l : ∀ xs, tup1 (.lst xs) = some (.sh (.tup xs)) := fun _ => rfl
  have tup_d : tup1 (dT dP (ordR M)) = some (.sh (.tup (dS (M.rows.map (·.1))))) := by
    unfold dT
    simp only [tup1, keysStr_dT]
    simp [ordR, dS, Function.comp_def]
  generalize sq b M.sources = sd at *
  generalize sq c M.posts = pd at *
  unfold i_Net___init__ m_Net___init__
  generalize hL1 : mDc _ _ _ _ _ _ = L1
  generalize hL2 : mLc _ _ _ _ _ = L2
  have eL1 : L1 ⟨[some ⟨.obj 0 [], true⟩, some ⟨dT dP rows, false⟩, some ⟨sd, false⟩, some ⟨pd, false⟩, some ⟨.lst (dS M.dots), true⟩, none, none], r⟩ = some (.tmp (.dct false (M.rows.map fun p => (.str p.1, .tup [dT dO (ordT M.dots p.2.1), dT dO (ordT M.dots p.2.2)]))), ⟨[some ⟨.obj 0 [], true⟩, some ⟨dT dP rows, false⟩, some ⟨sd, false⟩, some ⟨pd, false⟩, some ⟨.lst (dS M.dots), true⟩, none, none], r⟩) := by
    rw [← hL1]
    refine mDc_enc (fun p : Str × (Tab × Tab) => .str p.1) (fun p => p.1) (fun p => .tup [dT dO (ordT M.dots p.2.1), dT dO (ordT M.dots p.2.2)]) M.rows ?_ (by rfl) (fun p hpm => ?_) (by unfold sizeLine; omega) hM.rn
    · simp [fnM, fnR, ent, mSeq, mSet, mV, mC, mOp1, mOp2, mChain, mAnd, mOr, mNot, mIf, mArgs, escAll, esc, soft, pk, hard, put, puts, mHards, mPar, mTup, mLst, mDct0, mCall, mRest, mRt, mRtN, mNx, mEx, mIte, mMut, mPut, mIt, bindT, bindTs, isAtom, isLst, isDK, plainAt, wipeE, backE, mFor, mLc, mDc, mWhile, mBk, mCt, mNo, mSl, mNoP, mPt, mJoin, mRng1, mRng2, mZip, mCallK, pickL, mMeth, mProp, mMake, mFld, fnI, fnIR, mDisp, mPairs, o2I, gtI, geI, leI, mStar, mStarT, mStarL, mAugI, mIndex, hsr, itemsOf, dS, Function.comp_def]
    · obtain ⟨ht1, ht2⟩ := hM.tab p hpm
      have hi : idxD (dT dP rows) (.str p.1) = some (.sh (.tup [dT dO p.2.1, dT dO p.2.2])) := idx_dT dP (lookup_of_mem hrn (hp.mem_iff.mpr hpm))
      simp [fnM, fnR, ent, mSeq, mSet, mV, mC, mOp1, mOp2, mChain, mAnd, mOr, mNot, mIf, mArgs, escAll, esc, soft, pk, hard, put, puts, mHards, mPar, mTup, mLst, mDct0, mCall, mRest, mRt, mRtN, mNx, mEx, mIte, mMut, mPut, mIt, bindT, bindTs, isAtom, isLst, isDK, plainAt, wipeE, backE, mFor, mLc, mDc, mWhile, mBk, mCt, mNo, mSl, mNoP, mPt, mJoin, mRng1, mRng2, mZip, mCallK, pickL, mMeth, mProp, mMake, mFld, fnI, fnIR, mDisp, mPairs, o2I, gtI, geI, leI, mStar, mStarT, mStarL, mAugI, mIndex, hi, idx_tup2_0, idx_tup2_1, ordered_ok ht1 hM.du hM.dn (by omega), ordered_ok ht2 hM.du hM.dn (by omega)]
  have e1 : D.dct false (M.rows.map fun p => (.str p.1, .tup [dT dO (ordT M.dots p.2.1), dT dO (ordT M.dots p.2.2)])) = dT dP (ordR M) := by
    unfold dT ordR
    rw [List.map_map]; rfl
  rw [e1] at eL1
  have eL2 : L2 ⟨[some ⟨.obj 0 [("own_tables", dT dP (ordR M)), ("own_goals", .tup (dS (M.rows.map (·.1)))), ("own_nodes", .tup (dS M.dots)), ("own_sources", .tup (dS M.sources)), ("own_posts", .tup (dS M.posts))], true⟩, some ⟨dT dP rows, false⟩, some ⟨sd, false⟩, some ⟨pd, false⟩, some ⟨.lst (dS M.dots), true⟩, none, none], r⟩ = some (.tmp (.lst ((M.dots.filter (chg M)).map D.str)), ⟨[some ⟨.obj 0 [("own_tables", dT dP (ordR M)), ("own_goals", .tup (dS (M.rows.map (·.1)))), ("own_nodes", .tup (dS M.dots)), ("own_sources", .tup (dS M.sources)), ("own_posts", .tup (dS M.posts))], true⟩, some ⟨dT dP rows, false⟩, some ⟨sd, false⟩, some ⟨pd, false⟩, some ⟨.lst (dS M.dots), false⟩, none, none], r⟩) := by
    rw [← hL2]
    refine mLc_enc D.str (chg M) D.str M.dots ?_ (by rfl) (fun x hx => ?_) (by unfold sizeLine; omega)
    · simp [fnM, fnR, ent, mSeq, mSet, mV, mC, mOp1, mOp2, mChain, mAnd, mOr, mNot, mIf, mArgs, escAll, esc, soft, pk, hard, put, puts, mHards, mPar, mTup, mLst, mDct0, mCall, mRest, mRt, mRtN, mNx, mEx, mIte, mMut, mPut, mIt, bindT, bindTs, isAtom, isLst, isDK, plainAt, wipeE, backE, mFor, mLc, mDc, mWhile, mBk, mCt, mNo, mSl, mNoP, mPt, mJoin, mRng1, mRng2, mZip, mCallK, pickL, mMeth, mProp, mMake, mFld, fnI, fnIR, mDisp, mPairs, o2I, gtI, geI, leI, mStar, mStarT, mStarL, mAugI, mIndex, itemsOf, dS]
    · have nl : ∀ a b c d e : D, ([(("own_tables" : Str), a), ("own_goals", b), ("own_nodes", c), ("own_sources", d), ("own_posts", e)] : List (Str × D)).lookup ("does_change" : Str) = none := fun _ _ _ _ _ => rfl
      simp [fnM, fnR, ent, mSeq, mSet, mV, mC, mOp1, mOp2, mChain, mAnd, mOr, mNot, mIf, mArgs, escAll, esc, soft, pk, hard, put, puts, mHards, mPar, mTup, mLst, mDct0, mCall, mRest, mRt, mRtN, mNx, mEx, mIte, mMut, mPut, mIt, bindT, bindTs, isAtom, isLst, isDK, plainAt, wipeE, backE, mFor, mLc, mDc, mWhile, mBk, mCt, mNo, mSl, mNoP, mPt, mJoin, mRng1, mRng2, mZip, mCallK, pickL, mMeth, mProp, mMake, mFld, fnI, fnIR, mDisp, mPairs, o2I, gtI, geI, leI, mStar, mStarT, mStarL, mAugI, mIndex, nl, does_change_ok hM hx]
  have hpl : ¬ (2 : Int) < (M.posts.length : Int) := by omega
  simp [fnM, fnR, ent, mSeq, mSet, mV, mC, mOp1, mOp2, mChain, mAnd, mOr, mNot, mIf, mArgs, escAll, esc, soft, pk, hard, put, puts, mHards, mPar, mTup, mLst, mDct0, mCall, mRest, mRt, mRtN, mNx, mEx, mIte, mMut, mPut, mIt, bindT, bindTs, isAtom, isLst, isDK, plainAt, wipeE, backE, mFor, mLc, mDc, mWhile, mBk, mCt, mNo, mSl, mNoP, mPt, mJoin, mRng1, mRng2, mZip, mCallK, pickL, mMeth, mProp, mMake, mFld, fnI, fnIR, mDisp, mPairs, o2I, gtI, geI, leI, mStar, mStarT, mStarL, mAugI, mIndex, q1, q2, q3, q4, hlp, hpl, eL1, p1, fld_tables, tup_d, pp2, p3, tup_l, hss, p4, htp, p5, eL2, p6]
  rfl
/-! ### what changes -/
/-! ### rounds -/
structure RoundOk (M : Mod) (ready part : List Str) : Prop where
  r1 : Up ready
  r2 : ready.Nodup
  r3 : ∀ x ∈ ready, x ∈ changing M
  p1 : Up part
  p2 : part.Nodup
  p3 : ∀ x ∈ part, x ∈ changing M
  d : ∀ x ∈ part, x ∉ ready
  l : ready.length + part.length ≤ M.dots.length
theorem changing_len (M : Mod) : (changing M).length ≤ M.dots.length := List.length_filter_le _ _
end
end RW
namespace RW
open PySem L2
section
variable {R : Type} {T : Fm R}
theorem mUnp_ok {Tt : Tg} {ma : M R Vr} {s s1 s2 : S R} {v : Vr} {d : D} {e' : List (Option Cell)} (h1 : ma s = some (v, s1)) (h2 : esc (soft v) s1 = some (d, s2)) (h3 : bindT Tt d s2.e = some e') : mUnp Tt ma s = some (.nx, { s2 with e := e' }) := by
  unfold mUnp
  rw [h1]
  show (esc (soft v) s1).bind _ = _
  rw [h2]
  show Option.map _ (bindT Tt d s2.e) = _
  rw [h3]; rfl
/-! ### lots, goals, nodes -/
theorem fld1 (M : Mod) : fldD 0 "own_tables" (netD M) = some (.sh (dT dP (ordR M))) := rfl
theorem fld2 (M : Mod) : fldD 0 "own_goals" (netD M) = some (.sh (.tup (dS (M.rows.map (·.1))))) := rfl
theorem fld3 (M : Mod) : fldD 0 "own_nodes" (netD M) = some (.sh (.tup (dS M.dots))) := rfl
theorem fld6 (M : Mod) : fldD 0 "own_changing" (netD M) = some (.sh (.tup (dS (changing M)))) := rfl
theorem isi_net (M : Mod) : isiC 0 (netD M) = some (.sh (.bl true)) := rfl
theorem lt_of_le {a b : Str} (h : leS a b = true) (hne : a ≠ b) : a.cps.toList < b.cps.toList := by
  have h2 : leS b a = false := by
    cases q : leS b a with
    | false => rfl
    | true => exact absurd (leS_anti h q) hne
  unfold leS at h2
  have h3 : PySem.Spec.ltCps a.cps.toList b.cps.toList = true := by simpa using h2
  rw [PyProof.Rows.ltCps_eq] at h3
  exact of_decide_eq_true h3
theorem cut_1 {α : Type} (xs : List α) : cutL xs (some 1) none = xs.tail := by
  have := cut_from xs 1
  rwa [List.drop_one] at this
theorem zip_tail_mem {α : Type} {P : α → α → Prop} : ∀ {xs : List α}, xs.Pairwise P → ∀ p ∈ xs.zip (xs.tail), P p.1 p.2
  | [], _, p, hp => by cases hp
  | [x], _, p, hp => by cases hp
  | x :: y :: xs, h, p, hp => by
    have hp : p ∈ (x, y) :: (y :: xs).zip ((y :: xs).tail) := hp
    rcases List.mem_cons.mp hp with rfl | hp
    · exact (List.pairwise_cons.mp h).1 y List.mem_cons_self
    · exact zip_tail_mem (List.pairwise_cons.mp h).2 p hp
theorem up_lt {xs : List Str} (hu : Up xs) (hn : xs.Nodup) : xs.Pairwise fun a b => a.cps.toList < b.cps.toList := by
  have := List.Pairwise.and hu hn
  exact this.imp fun h => lt_of_le h.1 h.2
theorem is_lot_ok {M : Mod} (hM : ModOk M) {xs : List Str} (hu : Up xs) (hn : xs.Nodup) (hs : ∀ x ∈ xs, x ∈ changing M) (r : R) : f_is_lot T [netD M, .tup (dS xs)] r = some (.sh (.bl true), r) := by
  have d2 := hM.d2
  have hcl := changing_len M
  have hl : xs.length ≤ (changing M).length := sub_len hn hs
  unfold f_is_lot m_is_lot
  generalize hL1 : mLc [4] _ _ _ _ = L1
  generalize hL2 : mLc [2, 3] _ _ _ _ = L2
  have eL1 : L1 ⟨[some ⟨netD M, false⟩, some ⟨.tup (dS xs), false⟩, none, none, none], r⟩ = some (.tmp (.lst (xs.map fun _ => .bl true)), ⟨[some ⟨netD M, false⟩, some ⟨.tup (dS xs), false⟩, none, none, none], r⟩) := by
    rw [← hL1]
    refine mLc_all D.str (fun _ => .bl true) xs ?_ (by rfl) (fun x hx => ?_) (by unfold sizeLine; omega)
    · simp [fnM, fnR, ent, mSeq, mSet, mV, mC, mOp1, mOp2, mChain, mAnd, mOr, mNot, mIf, mArgs, escAll, esc, soft, pk, hard, put, puts, mHards, mPar, mTup, mLst, mDct0, mCall, mRest, mRt, mRtN, mNx, mEx, mIte, mMut, mPut, mIt, bindT, bindTs, isAtom, isLst, isDK, plainAt, wipeE, backE, mFor, mLc, mDc, mWhile, mBk, mCt, mNo, mSl, mNoP, mPt, mJoin, mRng1, mRng2, mZip, mCallK, pickL, mMeth, mProp, mMake, mFld, fnI, fnIR, mDisp, mPairs, o2I, gtI, geI, leI, mStar, mStarT, mStarL, mAugI, mIndex, itemsOf, dS]
    · simp [fnM, fnR, ent, mSeq, mSet, mV, mC, mOp1, mOp2, mChain, mAnd, mOr, mNot, mIf, mArgs, escAll, esc, soft, pk, hard, put, puts, mHards, mPar, mTup, mLst, mDct0, mCall, mRest, mRt, mRtN, mNx, mEx, mIte, mMut, mPut, mIt, bindT, bindTs, isAtom, isLst, isDK, plainAt, wipeE, backE, mFor, mLc, mDc, mWhile, mBk, mCt, mNo, mSl, mNoP, mPt, mJoin, mRng1, mRng2, mZip, mCallK, pickL, mMeth, mProp, mMake, mFld, fnI, fnIR, mDisp, mPairs, o2I, gtI, geI, leI, mStar, mStarT, mStarL, mAugI, mIndex, isi_str, fld6, inD, in_tup, hs x hx]
  have eL2 : L2 ⟨[some ⟨netD M, false⟩, some ⟨.tup (dS xs), false⟩, none, none, none], r⟩ = some (.tmp (.lst ((xs.zip (xs.tail)).map fun _ => .bl true)), ⟨[some ⟨netD M, false⟩, some ⟨.tup (dS xs), false⟩, none, none, none], r⟩) := by
    rw [← hL2]
    refine mLc_all (fun p : Str × Str => .tup [.str p.1, .str p.2]) (fun _ => .bl true) (xs.zip (xs.tail)) ?_ (by rfl) (fun p hp => ?_) (by rw [List.length_zip]; unfold sizeLine; omega)
    · have hz : zipOf (dS xs) (dS (xs.tail)) = (xs.zip (xs.tail)).map fun p => .tup [.str p.1, .str p.2] := by
        unfold zipOf dS
        rw [List.zip_map, List.map_map]; rfl
      simp [fnM, fnR, ent, mSeq, mSet, mV, mC, mOp1, mOp2, mChain, mAnd, mOr, mNot, mIf, mArgs, escAll, esc, soft, pk, hard, put, puts, mHards, mPar, mTup, mLst, mDct0, mCall, mRest, mRt, mRtN, mNx, mEx, mIte, mMut, mPut, mIt, bindT, bindTs, isAtom, isLst, isDK, plainAt, wipeE, backE, mFor, mLc, mDc, mWhile, mBk, mCt, mNo, mSl, mNoP, mPt, mJoin, mRng1, mRng2, mZip, mCallK, pickL, mMeth, mProp, mMake, mFld, fnI, fnIR, mDisp, mPairs, o2I, gtI, geI, leI, mStar, mStarT, mStarL, mAugI, mIndex, cutD, cut_1, zipI]
      rw [← hz]
      simp [dS]
    · have := zip_tail_mem (up_lt hu hn) p hp
      have hlt : ltD (.str p.1) (.str p.2) = some (.sh (.bl true)) := by simp only [ltD, decide_eq_true this]
      simp [fnM, fnR, ent, mSeq, mSet, mV, mC, mOp1, mOp2, mChain, mAnd, mOr, mNot, mIf, mArgs, escAll, esc, soft, pk, hard, put, puts, mHards, mPar, mTup, mLst, mDct0, mCall, mRest, mRt, mRtN, mNx, mEx, mIte, mMut, mPut, mIt, bindT, bindTs, isAtom, isLst, isDK, plainAt, wipeE, backE, mFor, mLc, mDc, mWhile, mBk, mCt, mNo, mSl, mNoP, mPt, mJoin, mRng1, mRng2, mZip, mCallK, pickL, mMeth, mProp, mMake, mFld, fnI, fnIR, mDisp, mPairs, o2I, gtI, geI, leI, mStar, mStarT, mStarL, mAugI, mIndex, hlt]
  simp [fnM, fnR, ent, mSeq, mSet, mV, mC, mOp1, mOp2, mChain, mAnd, mOr, mNot, mIf, mArgs, escAll, esc, soft, pk, hard, put, puts, mHards, mPar, mTup, mLst, mDct0, mCall, mRest, mRt, mRtN, mNx, mEx, mIte, mMut, mPut, mIt, bindT, bindTs, isAtom, isLst, isDK, plainAt, wipeE, backE, mFor, mLc, mDc, mWhile, mBk, mCt, mNo, mSl, mNoP, mPt, mJoin, mRng1, mRng2, mZip, mCallK, pickL, mMeth, mProp, mMake, mFld, fnI, fnIR, mDisp, mPairs, o2I, gtI, geI, leI, mStar, mStarT, mStarL, mAugI, mIndex, isi_tup, eL1, eL2, all_true]
theorem need_net_ok (M : Mod) (r : R) : f_need_net T [netD M] r = some (.sh .non, r) := by
  simp [f_need_net, m_need_net, fnM, fnR, ent, mSeq, mSet, mV, mC, mOp1, mOp2, mChain, mAnd, mOr, mNot, mIf, mArgs, escAll, esc, soft, pk, hard, put, puts, mHards, mPar, mTup, mLst, mDct0, mCall, mRest, mRt, mRtN, mNx, mEx, mIte, mMut, mPut, mIt, bindT, bindTs, isAtom, isLst, isDK, plainAt, wipeE, backE, mFor, mLc, mDc, mWhile, mBk, mCt, mNo, mSl, mNoP, mPt, mJoin, mRng1, mRng2, mZip, mCallK, pickL, mMeth, mProp, mMake, mFld, fnI, fnIR, mDisp, mPairs, o2I, gtI, geI, leI, mStar, mStarT, mStarL, mAugI, mIndex, isi_net]
theorem need_done_ok {M : Mod} (hM : ModOk M) {xs : List Str} (hu : Up xs) (hn : xs.Nodup) (hs : ∀ x ∈ xs, x ∈ changing M) (r : R) : f_need_done T [netD M, .tup (dS xs)] r = some (.sh .non, r) := by
  simp [f_need_done, m_need_done, fnM, fnR, ent, mSeq, mSet, mV, mC, mOp1, mOp2, mChain, mAnd, mOr, mNot, mIf, mArgs, escAll, esc, soft, pk, hard, put, puts, mHards, mPar, mTup, mLst, mDct0, mCall, mRest, mRt, mRtN, mNx, mEx, mIte, mMut, mPut, mIt, bindT, bindTs, isAtom, isLst, isDK, plainAt, wipeE, backE, mFor, mLc, mDc, mWhile, mBk, mCt, mNo, mSl, mNoP, mPt, mJoin, mRng1, mRng2, mZip, mCallK, pickL, mMeth, mProp, mMake, mFld, fnI, fnIR, mDisp, mPairs, o2I, gtI, geI, leI, mStar, mStarT, mStarL, mAugI, mIndex, is_lot_ok hM hu hn hs]
theorem need_goal_ok {M : Mod} {x : Str} (hx : x ∈ M.rows.map (·.1)) (r : R) : f_need_goal T [netD M, .str x] r = some (.sh .non, r) := by
  have := in_tup x (M.rows.map (·.1))
  rw [decide_eq_true hx] at this
  simp [f_need_goal, m_need_goal, fnM, fnR, ent, mSeq, mSet, mV, mC, mOp1, mOp2, mChain, mAnd, mOr, mNot, mIf, mArgs, escAll, esc, soft, pk, hard, put, puts, mHards, mPar, mTup, mLst, mDct0, mCall, mRest, mRt, mRtN, mNx, mEx, mIte, mMut, mPut, mIt, bindT, bindTs, isAtom, isLst, isDK, plainAt, wipeE, backE, mFor, mLc, mDc, mWhile, mBk, mCt, mNo, mSl, mNoP, mPt, mJoin, mRng1, mRng2, mZip, mCallK, pickL, mMeth, mProp, mMake, mFld, fnI, fnIR, mDisp, mPairs, o2I, gtI, geI, leI, mStar, mStarT, mStarL, mAugI, mIndex, isi_str, fld2, ninD, this]
theorem need_node_ok {M : Mod} {x : Str} (hx : x ∈ M.dots) (r : R) : f_need_node T [netD M, .str x] r = some (.sh .non, r) := by
  simp [f_need_node, m_need_node, fnM, fnR, ent, mSeq, mSet, mV, mC, mOp1, mOp2, mChain, mAnd, mOr, mNot, mIf, mArgs, escAll, esc, soft, pk, hard, put, puts, mHards, mPar, mTup, mLst, mDct0, mCall, mRest, mRt, mRtN, mNx, mEx, mIte, mMut, mPut, mIt, bindT, bindTs, isAtom, isLst, isDK, plainAt, wipeE, backE, mFor, mLc, mDc, mWhile, mBk, mCt, mNo, mSl, mNoP, mPt, mJoin, mRng1, mRng2, mZip, mCallK, pickL, mMeth, mProp, mMake, mFld, fnI, fnIR, mDisp, mPairs, o2I, gtI, geI, leI, mStar, mStarT, mStarL, mAugI, mIndex, isi_str, fld3, ninD, in_tup, hx]
/-! ### ways at a moment -/
def nowT (dots : List Str) (p : Tab × Tab) (on : List Str) : Tab := dots.map fun x => (x, if x ∈ on then look p.2 x else look p.1 x)
theorem ordR_look {M : Mod} (hM : ModOk M) {e : Str} {p : Tab × Tab} (hp : (e, p) ∈ M.rows) : (ordR M).lookup e = some (ordT M.dots p.1, ordT M.dots p.2) := by
  have : (e, (ordT M.dots p.1, ordT M.dots p.2)) ∈ ordR M := List.mem_map.mpr ⟨(e, p), hp, rfl⟩
  have hn : ((ordR M).map (·.1)).Nodup := by
    unfold ordR
    rw [List.map_map]
    exact hM.rn
  exact lookup_of_mem hn this
theorem moment_ok {M : Mod} (hM : ModOk M) {e : Str} {p : Tab × Tab} (hp : (e, p) ∈ M.rows) (done chd : List Str) (r : R) : f_moment_ways T [netD M, .tup (dS done), .tup (dS chd), .str e] r = some (.tmp (dT dO (nowT M.dots p (done ++ chd))), r) := by
  have d2 := hM.d2
  have hi : idxD (dT dP (ordR M)) (.str e) = some (.sh (.tup [dT dO (ordT M.dots p.1), dT dO (ordT M.dots p.2)])) := idx_dT dP (ordR_look hM hp)
  unfold f_moment_ways m_moment_ways
  generalize hL : mDc _ _ _ _ _ _ = L
  have eL : L ⟨[some ⟨netD M, false⟩, some ⟨.tup (dS done), false⟩, some ⟨.tup (dS chd), false⟩, some ⟨.str e, false⟩, some ⟨dT dO (ordT M.dots p.1), false⟩, some ⟨dT dO (ordT M.dots p.2), false⟩, none], r⟩ = some (.tmp (.dct false (M.dots.map fun x => (.str x, dO (if x ∈ done ++ chd then look p.2 x else look p.1 x)))), ⟨[some ⟨netD M, false⟩, some ⟨.tup (dS done), false⟩, some ⟨.tup (dS chd), false⟩, some ⟨.str e, false⟩, some ⟨dT dO (ordT M.dots p.1), false⟩, some ⟨dT dO (ordT M.dots p.2), false⟩, none], r⟩) := by
    rw [← hL]
    refine mDc_enc D.str (fun x => x) (fun x => dO (if x ∈ done ++ chd then look p.2 x else look p.1 x)) M.dots ?_ (by rfl) (fun x hx => ?_) (by unfold sizeLine; omega) (by simpa using hM.dn)
    · simp [fnM, fnR, ent, mSeq, mSet, mV, mC, mOp1, mOp2, mChain, mAnd, mOr, mNot, mIf, mArgs, escAll, esc, soft, pk, hard, put, puts, mHards, mPar, mTup, mLst, mDct0, mCall, mRest, mRt, mRtN, mNx, mEx, mIte, mMut, mPut, mIt, bindT, bindTs, isAtom, isLst, isDK, plainAt, wipeE, backE, mFor, mLc, mDc, mWhile, mBk, mCt, mNo, mSl, mNoP, mPt, mJoin, mRng1, mRng2, mZip, mCallK, pickL, mMeth, mProp, mMake, mFld, fnI, fnIR, mDisp, mPairs, o2I, gtI, geI, leI, mStar, mStarT, mStarL, mAugI, mIndex, fld3, itemsOf, dS]
    · by_cases h1 : x ∈ done
      · simp [fnM, fnR, ent, mSeq, mSet, mV, mC, mOp1, mOp2, mChain, mAnd, mOr, mNot, mIf, mArgs, escAll, esc, soft, pk, hard, put, puts, mHards, mPar, mTup, mLst, mDct0, mCall, mRest, mRt, mRtN, mNx, mEx, mIte, mMut, mPut, mIt, bindT, bindTs, isAtom, isLst, isDK, plainAt, wipeE, backE, mFor, mLc, mDc, mWhile, mBk, mCt, mNo, mSl, mNoP, mPt, mJoin, mRng1, mRng2, mZip, mCallK, pickL, mMeth, mProp, mMake, mFld, fnI, fnIR, mDisp, mPairs, o2I, gtI, geI, leI, mStar, mStarT, mStarL, mAugI, mIndex, inD, in_tup, h1, idx_dT dO (ordT_look (t := p.2) hx)]
      · by_cases h2 : x ∈ chd
        · simp [fnM, fnR, ent, mSeq, mSet, mV, mC, mOp1, mOp2, mChain, mAnd, mOr, mNot, mIf, mArgs, escAll, esc, soft, pk, hard, put, puts, mHards, mPar, mTup, mLst, mDct0, mCall, mRest, mRt, mRtN, mNx, mEx, mIte, mMut, mPut, mIt, bindT, bindTs, isAtom, isLst, isDK, plainAt, wipeE, backE, mFor, mLc, mDc, mWhile, mBk, mCt, mNo, mSl, mNoP, mPt, mJoin, mRng1, mRng2, mZip, mCallK, pickL, mMeth, mProp, mMake, mFld, fnI, fnIR, mDisp, mPairs, o2I, gtI, geI, leI, mStar, mStarT, mStarL, mAugI, mIndex, inD, in_tup, h1, h2, idx_dT dO (ordT_look (t := p.2) hx)]
        · simp [fnM, fnR, ent, mSeq, mSet, mV, mC, mOp1, mOp2, mChain, mAnd, mOr, mNot, mIf, mArgs, escAll, esc, soft, pk, hard, put, puts, mHards, mPar, mTup, mLst, mDct0, mCall, mRest, mRt, mRtN, mNx, mEx, mIte, mMut, mPut, mIt, bindT, bindTs, isAtom, isLst, isDK, plainAt, wipeE, backE, mFor, mLc, mDc, mWhile, mBk, mCt, mNo, mSl, mNoP, mPt, mJoin, mRng1, mRng2, mZip, mCallK, pickL, mMeth, mProp, mMake, mFld, fnI, fnIR, mDisp, mPairs, o2I, gtI, geI, leI, mStar, mStarT, mStarL, mAugI, mIndex, inD, in_tup, h1, h2, idx_dT dO (ordT_look (t := p.1) hx)]
  have e2 : D.dct false (M.dots.map fun x => (.str x, dO (if x ∈ done ++ chd then look p.2 x else look p.1 x))) = dT dO (nowT M.dots p (done ++ chd)) := by
    unfold dT nowT
    rw [List.map_map]; rfl
  rw [e2] at eL
  generalize hU : mUnp _ _ = U
  have eU : U ⟨[some ⟨netD M, false⟩, some ⟨.tup (dS done), false⟩, some ⟨.tup (dS chd), false⟩, some ⟨.str e, false⟩, none, none, none], r⟩ = some (.nx, ⟨[some ⟨netD M, false⟩, some ⟨.tup (dS done), false⟩, some ⟨.tup (dS chd), false⟩, some ⟨.str e, false⟩, some ⟨dT dO (ordT M.dots p.1), false⟩, some ⟨dT dO (ordT M.dots p.2), false⟩, none], r⟩) := by
    rw [← hU]
    refine mUnp_ok (v := .sh (.tup [dT dO (ordT M.dots p.1), dT dO (ordT M.dots p.2)])) (s1 := ⟨[some ⟨netD M, false⟩, some ⟨.tup (dS done), false⟩, some ⟨.tup (dS chd), false⟩, some ⟨.str e, false⟩, none, none, none], r⟩) ?_ rfl rfl
    simp [fnM, fnR, ent, mSeq, mSet, mV, mC, mOp1, mOp2, mChain, mAnd, mOr, mNot, mIf, mArgs, escAll, esc, soft, pk, hard, put, puts, mHards, mPar, mTup, mLst, mDct0, mCall, mRest, mRt, mRtN, mNx, mEx, mIte, mMut, mPut, mIt, bindT, bindTs, isAtom, isLst, isDK, plainAt, wipeE, backE, mFor, mLc, mDc, mWhile, mBk, mCt, mNo, mSl, mNoP, mPt, mJoin, mRng1, mRng2, mZip, mCallK, pickL, mMeth, mProp, mMake, mFld, fnI, fnIR, mDisp, mPairs, o2I, gtI, geI, leI, mStar, mStarT, mStarL, mAugI, mIndex, fld1, hi]
  simp [fnM, fnR, ent, mSeq, mSet, mV, mC, mOp1, mOp2, mChain, mAnd, mOr, mNot, mIf, mArgs, escAll, esc, soft, pk, hard, put, puts, mHards, mPar, mTup, mLst, mDct0, mCall, mRest, mRt, mRtN, mNx, mEx, mIte, mMut, mPut, mIt, bindT, bindTs, isAtom, isLst, isDK, plainAt, wipeE, backE, mFor, mLc, mDc, mWhile, mBk, mCt, mNo, mSl, mNoP, mPt, mJoin, mRng1, mRng2, mZip, mCallK, pickL, mMeth, mProp, mMake, mFld, fnI, fnIR, mDisp, mPairs, o2I, gtI, geI, leI, mStar, mStarT, mStarL, mAugI, mIndex, eU, eL]
end
end RW
namespace RW
open PySem L2
/-! ### walks -/
/-- from the last place on, place by place, up to a place without a way or one that is there already -/
def goW (t : Tab) : Nat → List (Option Str) → Option Str → List (Option Str)
  | 0, q, y => q ++ [y]
  | n + 1, q, y => match y with
    | none => q ++ [none]
    | some x => if x ∈ t.map (·.1) then (if look t x ∈ q ++ [some x] then q ++ [some x] ++ [look t x] else goW t n (q ++ [some x]) (look t x)) else q ++ [some x]
def walkW (t : Tab) (x : Str) : List (Option Str) := goW t 8 [] (some x)
section
variable {R : Type} {T : Fm R}
def lO (q : List (Option Str)) : List D := q.map dO
def pO (q : List (Option Str)) (y : Option Str) : List D := (q ++ [y]).map dO
theorem atI_last (q : List (Option Str)) (y : Option Str) : atI (pO q y) (-1) = some (dO y) := by
  unfold atI ixN pO
  have h1 : ((q ++ [y]).map dO).length = q.length + 1 := by simp
  rw [h1, if_neg (by omega), if_pos (by omega)]
  have h2 : ((-1 : Int) + ((q.length + 1 : Nat) : Int)).toNat = q.length := by omega
  show ((q ++ [y]).map dO)[((-1 : Int) + ((q.length + 1 : Nat) : Int)).toNat]? = _
  rw [h2]
  simp
theorem cut_lastO (q : List (Option Str)) (y : Option Str) : cutL (pO q y) none (some (-1)) = lO q := by
  unfold pO lO
  rw [List.map_append]
  exact cut_last _ _
theorem pO_app (q : List (Option Str)) (y w : Option Str) : pO q y ++ [dO w] = pO (q ++ [y]) w := by simp [pO]
theorem pO_len (q : List (Option Str)) (y : Option Str) : (pO q y).length = q.length + 1 := by simp [pO]
theorem toVs_O : ∀ xs : List (Option Str), toVs (xs.map dO) = some (xs.map fun x => match x with | some z => V.str z | none => V.non)
  | [] => rfl
  | x :: xs => by
    rw [List.map_cons]
    show (toV (dO x)).bind (fun v => (toVs (xs.map dO)).map fun vs => v :: vs) = _
    rw [toVs_O xs]
    cases x <;> rfl
theorem in_lstO (y : Option Str) (q : List (Option Str)) : inB (dO y) (.lst (lO q)) = some (decide (y ∈ q)) := by
  unfold lO
  have e : inB (dO y) (.lst (q.map dO)) = (toV (dO y)).bind fun v => (toVs (q.map dO)).map fun vs => inV v vs := by cases y <;> rfl
  rw [e, toVs_O]
  clear e
  have key : ∀ v, toV (dO y) = some v → inV v (q.map fun x => match x with | some z => V.str z | none => V.non) = decide (y ∈ q) := by
    intro v hv
    unfold inV
    induction q with
    | nil => rfl
    | cons a q ih =>
      rw [List.map_cons, List.any_cons, ih]
      cases y with
      | none =>
        cases hv
        cases a <;> simp [eqV]
      | some y =>
        cases hv
        cases a with
        | none => simp [eqV]
        | some a =>
          by_cases h : a = y
          · subst h; simp [eqV]
          · simp [eqV, h, beq_eq_false_iff_ne.mpr h, Ne.symm h]
  cases y with
  | none => simp [dO, toV]; exact key .non rfl
  | some y => simp [dO, toV]; exact key (.str y) rfl
structure WOkP (dots : List Str) (q : List (Option Str)) (y : Option Str) : Prop where
  nd : (q ++ [y]).Nodup
  sub : ∀ z ∈ q, z ∈ dots.map some
theorem WOkP.len {dots : List Str} {q : List (Option Str)} {y : Option Str} (h : WOkP dots q y) : q.length ≤ dots.length := by
  have hn : q.Nodup := (List.nodup_append.mp h.nd).1
  have := sub_len hn h.sub
  simpa using this
theorem look_dT {t : Tab} {x : Str} (h : x ∈ t.map (·.1)) : idxD (dT dO t) (.str x) = some (.sh (dO (look t x))) := by
  obtain ⟨y, hy⟩ := Option.isSome_iff_exists.mp (look_some.mp h)
  have : look t x = y := by unfold look; rw [hy]; rfl
  rw [this]
  exact idx_dT dO hy
theorem led_by_ok {t : Tab} {x : Str} (hl : t.length ≤ 6) (r : R) : f_led_by T [dT dO t, .str x] r = some (.tmp (.lst ((walkW t x).map dO)), r) := by
  suffices h : Ev (f_led_by T [dT dO t, .str x] r) (fun v r' => v = .tmp (.lst ((walkW t x).map dO)) ∧ r' = r) by
    obtain ⟨v, r', e, rfl, rfl⟩ := h
    exact e
  unfold f_led_by m_led_by
  generalize hW : mWhile _ _ = W
  simp [fnM, fnR, ent, mSeq, mSet, mV, mC, mOp1, mOp2, mChain, mAnd, mOr, mNot, mIf, mArgs, escAll, esc, soft, pk, hard, put, puts, mHards, mPar, mTup, mLst, mDct0, mCall, mRest, mRt, mRtN, mNx, mEx, mIte, mMut, mPut, mIt, bindT, bindTs, isAtom, isLst, isDK, plainAt, wipeE, backE, mFor, mLc, mDc, mWhile, mBk, mCt, mNo, mSl, mNoP, mPt, mJoin, mRng1, mRng2, mZip, mCallK, pickL, mMeth, mProp, mMake, mFld, fnI, fnIR, mDisp, mPairs, o2I, gtI, geI, leI, mStar, mStarT, mStarL, mAugI, mIndex]
  subst hW
  unfold mWhile
  let st : List D → S R := fun p => ⟨[some ⟨dT dO t, false⟩, some ⟨.str x, false⟩, some ⟨.lst p, true⟩], r⟩
  /- either a place that is not there before, or the end -/
  let I : Nat → S R → Prop := fun n s => ∃ q y, s = ⟨[some ⟨dT dO t, false⟩, some ⟨.str x, false⟩, some ⟨.lst (pO q y), true⟩], r⟩ ∧ n = 8 - q.length ∧ ((WOkP (t.map (·.1)) q y ∧ goW t (8 - q.length) q y = walkW t x) ∨ (y ∈ q ∧ q ++ [y] = walkW t x))
  let Q : Fl → S R → Prop := fun fl s => s = ⟨[some ⟨dT dO t, false⟩, some ⟨.str x, false⟩, some ⟨.lst ((walkW t x).map dO), true⟩], r⟩ ∧ fl = .nx
  have i1 : ∀ (xs : List D) (d : D), atI xs (-1) = some d → idxD (.lst xs) (.int (-1)) = some (.sh d) := fun xs d h => by simp [idxD, idxS, h]
  refine (wh_ev I Q (fun n s hs => ?_) wfuel 8 _ (lt_wfuel (by omega)) ⟨[], some x, rfl, rfl, .inl ⟨⟨by simp, by simp⟩, rfl⟩⟩).mono ?_
  · obtain ⟨q, y, rfl, rfl, hw⟩ := hs
    have hat := i1 _ _ (atI_last q y)
    have hcu := cut_lastO q y
    have hii := in_lstO y q
    rcases hw with ⟨hw, hg⟩ | ⟨hyq, hg⟩
    · have hql : q.length ≤ 6 := by have := hw.len; simp only [List.length_map] at this; omega
      have hn : 8 - q.length = (8 - (q.length + 1)) + 1 := by omega
      rw [hn] at hg
      unfold goW at hg
      have hyn : y ∉ q := fun z => (List.nodup_append.mp hw.nd).2.2 y z y (by simp) rfl
      rw [decide_eq_false hyn] at hii
      cases y with
      | none =>
        simp only at hg
        have hin : inB .non (dT dO t) = some false := rfl
        have hat : idxD (.lst (pO q none)) (.int (-1)) = some (.sh .non) := hat
        simp [fnM, fnR, ent, mSeq, mSet, mV, mC, mOp1, mOp2, mChain, mAnd, mOr, mNot, mIf, mArgs, escAll, esc, soft, pk, hard, put, puts, mHards, mPar, mTup, mLst, mDct0, mCall, mRest, mRt, mRtN, mNx, mEx, mIte, mMut, mPut, mIt, bindT, bindTs, isAtom, isLst, isDK, plainAt, wipeE, backE, mFor, mLc, mDc, mWhile, mBk, mCt, mNo, mSl, mNoP, mPt, mJoin, mRng1, mRng2, mZip, mCallK, pickL, mMeth, mProp, mMake, mFld, fnI, fnIR, mDisp, mPairs, o2I, gtI, geI, leI, mStar, mStarT, mStarL, mAugI, mIndex, negD, hat, inD, hin]
        exact ⟨by rw [← hg]; rfl, rfl⟩
      | some z =>
        simp only at hg
        have hat : idxD (.lst (pO q (some z))) (.int (-1)) = some (.sh (.str z)) := hat
        have hii : inB (.str z) (.lst (lO q)) = some false := hii
        by_cases hz : z ∈ t.map (·.1)
        · rw [if_pos hz] at hg
          have hin := in_dT_true dO hz
          have hlk := look_dT hz
          have hsz : (pO q (some z)).length < sizeLine := by rw [pO_len]; unfold sizeLine; omega
          have happ := pO_app q (some z) (look t z)
          simp [fnM, fnR, ent, mSeq, mSet, mV, mC, mOp1, mOp2, mChain, mAnd, mOr, mNot, mIf, mArgs, escAll, esc, soft, pk, hard, put, puts, mHards, mPar, mTup, mLst, mDct0, mCall, mRest, mRt, mRtN, mNx, mEx, mIte, mMut, mPut, mIt, bindT, bindTs, isAtom, isLst, isDK, plainAt, wipeE, backE, mFor, mLc, mDc, mWhile, mBk, mCt, mNo, mSl, mNoP, mPt, mJoin, mRng1, mRng2, mZip, mCallK, pickL, mMeth, mProp, mMake, mFld, fnI, fnIR, mDisp, mPairs, o2I, gtI, geI, leI, mStar, mStarT, mStarL, mAugI, mIndex, negD, hat, inD, ninD, hin, cutD, hcu, hii, hlk, appL, hsz, happ]
          refine ⟨8 - (q.length + 1), by omega, q ++ [some z], look t z, rfl, by simp, ?_⟩
          by_cases hy : look t z ∈ q ++ [some z]
          · rw [if_pos hy] at hg
            exact .inr ⟨hy, hg⟩
          · rw [if_neg hy] at hg
            refine .inl ⟨⟨?_, ?_⟩, ?_⟩
            · rw [List.nodup_append]
              exact ⟨hw.nd, by simp, fun a ha b hb => by simp at hb; subst hb; exact fun e => hy (e ▸ ha)⟩
            · intro w hww
              rcases List.mem_append.mp hww with hww | hww
              · exact hw.sub w hww
              · have : w = some z := by simpa using hww
                rw [this]; exact List.mem_map_of_mem hz
            · rw [List.length_append]; exact hg
        · rw [if_neg hz] at hg
          have hin := in_dT_false dO hz
          simp [fnM, fnR, ent, mSeq, mSet, mV, mC, mOp1, mOp2, mChain, mAnd, mOr, mNot, mIf, mArgs, escAll, esc, soft, pk, hard, put, puts, mHards, mPar, mTup, mLst, mDct0, mCall, mRest, mRt, mRtN, mNx, mEx, mIte, mMut, mPut, mIt, bindT, bindTs, isAtom, isLst, isDK, plainAt, wipeE, backE, mFor, mLc, mDc, mWhile, mBk, mCt, mNo, mSl, mNoP, mPt, mJoin, mRng1, mRng2, mZip, mCallK, pickL, mMeth, mProp, mMake, mFld, fnI, fnIR, mDisp, mPairs, o2I, gtI, geI, leI, mStar, mStarT, mStarL, mAugI, mIndex, negD, hat, inD, hin]
          exact ⟨by rw [← hg]; rfl, rfl⟩
    · rw [decide_eq_true hyq] at hii
      have hpo : pO q y = (walkW t x).map dO := by rw [← hg]; rfl
      cases y with
      | none =>
        have hin : inB .non (dT dO t) = some false := rfl
        have hat : idxD (.lst (pO q none)) (.int (-1)) = some (.sh .non) := hat
        simp [fnM, fnR, ent, mSeq, mSet, mV, mC, mOp1, mOp2, mChain, mAnd, mOr, mNot, mIf, mArgs, escAll, esc, soft, pk, hard, put, puts, mHards, mPar, mTup, mLst, mDct0, mCall, mRest, mRt, mRtN, mNx, mEx, mIte, mMut, mPut, mIt, bindT, bindTs, isAtom, isLst, isDK, plainAt, wipeE, backE, mFor, mLc, mDc, mWhile, mBk, mCt, mNo, mSl, mNoP, mPt, mJoin, mRng1, mRng2, mZip, mCallK, pickL, mMeth, mProp, mMake, mFld, fnI, fnIR, mDisp, mPairs, o2I, gtI, geI, leI, mStar, mStarT, mStarL, mAugI, mIndex, negD, hat, inD, hin]
        exact ⟨by rw [hpo], rfl⟩
      | some z =>
        have hat : idxD (.lst (pO q (some z))) (.int (-1)) = some (.sh (.str z)) := hat
        have hii : inB (.str z) (.lst (lO q)) = some true := hii
        by_cases hz : z ∈ t.map (·.1)
        · have hin := in_dT_true dO hz
          simp [fnM, fnR, ent, mSeq, mSet, mV, mC, mOp1, mOp2, mChain, mAnd, mOr, mNot, mIf, mArgs, escAll, esc, soft, pk, hard, put, puts, mHards, mPar, mTup, mLst, mDct0, mCall, mRest, mRt, mRtN, mNx, mEx, mIte, mMut, mPut, mIt, bindT, bindTs, isAtom, isLst, isDK, plainAt, wipeE, backE, mFor, mLc, mDc, mWhile, mBk, mCt, mNo, mSl, mNoP, mPt, mJoin, mRng1, mRng2, mZip, mCallK, pickL, mMeth, mProp, mMake, mFld, fnI, fnIR, mDisp, mPairs, o2I, gtI, geI, leI, mStar, mStarT, mStarL, mAugI, mIndex, negD, hat, inD, ninD, hin, cutD, hcu, hii]
          exact ⟨by rw [hpo], rfl⟩
        · have hin := in_dT_false dO hz
          simp [fnM, fnR, ent, mSeq, mSet, mV, mC, mOp1, mOp2, mChain, mAnd, mOr, mNot, mIf, mArgs, escAll, esc, soft, pk, hard, put, puts, mHards, mPar, mTup, mLst, mDct0, mCall, mRest, mRt, mRtN, mNx, mEx, mIte, mMut, mPut, mIt, bindT, bindTs, isAtom, isLst, isDK, plainAt, wipeE, backE, mFor, mLc, mDc, mWhile, mBk, mCt, mNo, mSl, mNoP, mPt, mJoin, mRng1, mRng2, mZip, mCallK, pickL, mMeth, mProp, mMake, mFld, fnI, fnIR, mDisp, mPairs, o2I, gtI, geI, leI, mStar, mStarT, mStarL, mAugI, mIndex, negD, hat, inD, hin]
          exact ⟨by rw [hpo], rfl⟩
  · rintro fl s ⟨rfl, rfl⟩
    simp
theorem led_ok {M : Mod} (hM : ModOk M) {ready part : List Str} (hr : RoundOk M ready part) {e : Str} {p : Tab × Tab} (hp : (e, p) ∈ M.rows) {x : Str} (hx : x ∈ M.dots) (r : R) :
    f_led T [netD M, .tup (dS ready), .tup (dS part), .str e, .str x] r = some (.tmp (.lst ((walkW (nowT M.dots p (ready ++ part)) x).map dO)), r) := by
  have d2 := hM.d2
  have hl := hr.l
  have q1 := need_net_ok (T := T) M r
  have q2 := need_done_ok (T := T) hM hr.r1 hr.r2 hr.r3 r
  have q3 := is_lot_ok (T := T) hM hr.p1 hr.p2 hr.p3 r
  have q4 := need_goal_ok (T := T) (M := M) (x := e) (List.mem_map.mpr ⟨_, hp, rfl⟩) r
  have q5 := need_node_ok (T := T) (M := M) hx r
  have q6 := moment_ok (T := T) hM hp ready part r
  have q7 := led_by_ok (T := T) (t := nowT M.dots p (ready ++ part)) (x := x) (by simp [nowT]; omega) r
  unfold f_led m_led
  generalize hL : mLc _ _ _ _ _ = L
  have eL : L ⟨[some ⟨netD M, false⟩, some ⟨.tup (dS ready), false⟩, some ⟨.tup (dS part), false⟩, some ⟨.str e, false⟩, some ⟨.str x, false⟩, none], r⟩ = some (.tmp (.lst (part.map fun _ => .bl false)), ⟨[some ⟨netD M, false⟩, some ⟨.tup (dS ready), false⟩, some ⟨.tup (dS part), false⟩, some ⟨.str e, false⟩, some ⟨.str x, false⟩, none], r⟩) := by
    rw [← hL]
    refine mLc_all D.str (fun _ => .bl false) part ?_ (by rfl) (fun y hy => ?_) (by unfold sizeLine; omega)
    · simp [fnM, fnR, ent, mSeq, mSet, mV, mC, mOp1, mOp2, mChain, mAnd, mOr, mNot, mIf, mArgs, escAll, esc, soft, pk, hard, put, puts, mHards, mPar, mTup, mLst, mDct0, mCall, mRest, mRt, mRtN, mNx, mEx, mIte, mMut, mPut, mIt, bindT, bindTs, isAtom, isLst, isDK, plainAt, wipeE, backE, mFor, mLc, mDc, mWhile, mBk, mCt, mNo, mSl, mNoP, mPt, mJoin, mRng1, mRng2, mZip, mCallK, pickL, mMeth, mProp, mMake, mFld, fnI, fnIR, mDisp, mPairs, o2I, gtI, geI, leI, mStar, mStarT, mStarL, mAugI, mIndex, itemsOf, dS]
    · simp [fnM, fnR, ent, mSeq, mSet, mV, mC, mOp1, mOp2, mChain, mAnd, mOr, mNot, mIf, mArgs, escAll, esc, soft, pk, hard, put, puts, mHards, mPar, mTup, mLst, mDct0, mCall, mRest, mRt, mRtN, mNx, mEx, mIte, mMut, mPut, mIt, bindT, bindTs, isAtom, isLst, isDK, plainAt, wipeE, backE, mFor, mLc, mDc, mWhile, mBk, mCt, mNo, mSl, mNoP, mPt, mJoin, mRng1, mRng2, mZip, mCallK, pickL, mMeth, mProp, mMake, mFld, fnI, fnIR, mDisp, mPairs, o2I, gtI, geI, leI, mStar, mStarT, mStarL, mAugI, mIndex, inD, in_tup, hr.d y hy]
  have hany : anyD (.lst (part.map fun _ => .bl false)) = some (.sh (.bl false)) := by
    have := any_bl (part.map fun _ => false)
    rw [List.map_map] at this
    have e : (part.map fun _ => false).any id = false := by simp
    rw [e] at this
    exact this
  simp [fnM, fnR, ent, mSeq, mSet, mV, mC, mOp1, mOp2, mChain, mAnd, mOr, mNot, mIf, mArgs, escAll, esc, soft, pk, hard, put, puts, mHards, mPar, mTup, mLst, mDct0, mCall, mRest, mRt, mRtN, mNx, mEx, mIte, mMut, mPut, mIt, bindT, bindTs, isAtom, isLst, isDK, plainAt, wipeE, backE, mFor, mLc, mDc, mWhile, mBk, mCt, mNo, mSl, mNoP, mPt, mJoin, mRng1, mRng2, mZip, mCallK, pickL, mMeth, mProp, mMake, mFld, fnI, fnIR, mDisp, mPairs, o2I, gtI, geI, leI, mStar, mStarT, mStarL, mAugI, mIndex, q1, q2, q3, eL, hany, q4, q5, q6, q7]
end
end RW
namespace RW
open PySem L2
/-! ### the draws -/
theorem pow18 : iPow 10 18 = some (.int 1000000000000000000) := by
  unfold iPow
  rw [if_pos (by decide)]
  rfl
theorem mul_r (i : Int) {j : Int} (h : j.natAbs < 18446744073709551616) : iMul i j = some (.int (i * j)) := by unfold iMul; rw [if_pos (.inr h)]
theorem div_ok (i : Int) {j : Int} (h : 0 < j) (h2 : j.natAbs < 1073741824) : iDiv i j = some (.int (i / j)) := by unfold iDiv; rw [if_pos ⟨h, h2⟩]
theorem mod_ok (i : Int) {j : Int} (h : 0 < j) : iMod i j = some (.int (i % j)) := by unfold iMod; rw [if_pos h]
theorem pow5 {b : Int} (h : b.natAbs < 18446744073709551616) : iPow b 5 = some (.int (b ^ 5)) := by
  unfold iPow
  rw [if_pos ⟨by decide, by decide, by omega⟩]
  rfl
theorem mul_int (i : Int) {j : Int} (h : j.natAbs < 18446744073709551616) : mulD (.int i) (.int j) = some (.sh (.int (i * j))) := by simp [mulD, mul_r i h]
theorem begin_ok (nl : Nat) : ∀ ns : List Int, ns.length ≤ 63 → ∃ r, m_begin1 ⟨lawE nl ns none, ()⟩ = some (.nx, ⟨lawE nl ns (some ⟨drD r, true⟩), ()⟩) := by
  intro ns hns
  let ab : Int → Int := fun i => if i < 0 then -i else i
  let r : Dr := ⟨((ns.filter fun i => decide (1000000000000000000 ≤ ab i)).map fun i => ab i - 1000000000000000000), 0, ns.map ab, 0⟩
  refine ⟨r, ?_⟩
  have hb : f__law_begin (R := Unit) (fun _ _ => none) [.scr ns] () = some (.tmp (drD r), ()) := by
    unfold f__law_begin m__law_begin
    generalize hL1 : mLc _ _ _ (mOp2 _ _ _) _ = L1
    generalize hL2 : mLc _ _ _ _ _ = L2
    have eL1 : L1 ⟨[some ⟨.scr ns, false⟩, none, none], ()⟩ = some (.tmp (.lst ((ns.filter fun i => decide (1000000000000000000 ≤ ab i)).map fun i => .int (ab i - 1000000000000000000))), ⟨[some ⟨.scr ns, false⟩, none, none], ()⟩) := by
      rw [← hL1]
      refine mLc_enc D.int (fun i => decide (1000000000000000000 ≤ ab i)) (fun i => .int (ab i - 1000000000000000000)) ns ?_ (by rfl) (fun i hi => ?_) (by unfold sizeLine; omega)
      · simp [fnM, fnR, ent, mSeq, mSet, mV, mC, mOp1, mOp2, mChain, mAnd, mOr, mNot, mIf, mArgs, escAll, esc, soft, pk, hard, put, puts, mHards, mPar, mTup, mLst, mDct0, mCall, mRest, mRt, mRtN, mNx, mEx, mIte, mMut, mPut, mIt, bindT, bindTs, isAtom, isLst, isDK, plainAt, wipeE, backE, mFor, mLc, mDc, mWhile, mBk, mCt, mNo, mSl, mNoP, mPt, mJoin, mRng1, mRng2, mZip, mCallK, pickL, mMeth, mProp, mMake, mFld, fnI, fnIR, mDisp, mPairs, o2I, gtI, geI, leI, mStar, mStarT, mStarL, mAugI, mIndex, itemsOf]
      · simp [fnM, fnR, ent, mSeq, mSet, mV, mC, mOp1, mOp2, mChain, mAnd, mOr, mNot, mIf, mArgs, escAll, esc, soft, pk, hard, put, puts, mHards, mPar, mTup, mLst, mDct0, mCall, mRest, mRt, mRtN, mNx, mEx, mIte, mMut, mPut, mIt, bindT, bindTs, isAtom, isLst, isDK, plainAt, wipeE, backE, mFor, mLc, mDc, mWhile, mBk, mCt, mNo, mSl, mNoP, mPt, mJoin, mRng1, mRng2, mZip, mCallK, pickL, mMeth, mProp, mMake, mFld, fnI, fnIR, mDisp, mPairs, o2I, gtI, geI, leI, mStar, mStarT, mStarL, mAugI, mIndex, absD, pow18, ab]
    have eL2 : ∀ a1, L2 ⟨[some ⟨.scr ns, false⟩, a1, none], ()⟩ = some (.tmp (.lst (ns.map fun i => .int (ab i))), ⟨[some ⟨.scr ns, false⟩, a1, none], ()⟩) := fun a1 => by
      rw [← hL2]
      refine mLc_all D.int (fun i => .int (ab i)) ns ?_ (by rfl) (fun i hi => ?_) (by unfold sizeLine; omega)
      · simp [fnM, fnR, ent, mSeq, mSet, mV, mC, mOp1, mOp2, mChain, mAnd, mOr, mNot, mIf, mArgs, escAll, esc, soft, pk, hard, put, puts, mHards, mPar, mTup, mLst, mDct0, mCall, mRest, mRt, mRtN, mNx, mEx, mIte, mMut, mPut, mIt, bindT, bindTs, isAtom, isLst, isDK, plainAt, wipeE, backE, mFor, mLc, mDc, mWhile, mBk, mCt, mNo, mSl, mNoP, mPt, mJoin, mRng1, mRng2, mZip, mCallK, pickL, mMeth, mProp, mMake, mFld, fnI, fnIR, mDisp, mPairs, o2I, gtI, geI, leI, mStar, mStarT, mStarL, mAugI, mIndex, itemsOf]
      · simp [fnM, fnR, ent, mSeq, mSet, mV, mC, mOp1, mOp2, mChain, mAnd, mOr, mNot, mIf, mArgs, escAll, esc, soft, pk, hard, put, puts, mHards, mPar, mTup, mLst, mDct0, mCall, mRest, mRt, mRtN, mNx, mEx, mIte, mMut, mPut, mIt, bindT, bindTs, isAtom, isLst, isDK, plainAt, wipeE, backE, mFor, mLc, mDc, mWhile, mBk, mCt, mNo, mSl, mNoP, mPt, mJoin, mRng1, mRng2, mZip, mCallK, pickL, mMeth, mProp, mMake, mFld, fnI, fnIR, mDisp, mPairs, o2I, gtI, geI, leI, mStar, mStarT, mStarL, mAugI, mIndex, absD, ab]
    have hdisp : ∀ a b c d : D, List.foldl (fun acc (kv : Key × D) => putE acc (keyD kv.1) kv.2) [] [((Sum.inr "great" : Key), a), (Sum.inr "rest", b), (Sum.inr "cells", c), (Sum.inr "turn", d)] = [(.str "great", a), (.str "rest", b), (.str "cells", c), (.str "turn", d)] := fun a b c d => rfl
    simp only [List.foldl_cons, List.foldl_nil] at hdisp
    simp [fnM, fnR, ent, mSeq, mSet, mV, mC, mOp1, mOp2, mChain, mAnd, mOr, mNot, mIf, mArgs, escAll, esc, soft, pk, hard, put, puts, mHards, mPar, mTup, mLst, mDct0, mCall, mRest, mRt, mRtN, mNx, mEx, mIte, mMut, mPut, mIt, bindT, bindTs, isAtom, isLst, isDK, plainAt, wipeE, backE, mFor, mLc, mDc, mWhile, mBk, mCt, mNo, mSl, mNoP, mPt, mJoin, mRng1, mRng2, mZip, mCallK, pickL, mMeth, mProp, mMake, mFld, fnI, fnIR, mDisp, mPairs, o2I, gtI, geI, leI, mStar, mStarT, mStarL, mAugI, mIndex, eL1, eL2, kOf, keyD, drD, r, Function.comp_def]
    exact hdisp _ _ _ _
  unfold m_begin1 lawE
  simp [fnM, fnR, ent, mSeq, mSet, mV, mC, mOp1, mOp2, mChain, mAnd, mOr, mNot, mIf, mArgs, escAll, esc, soft, pk, hard, put, puts, mHards, mPar, mTup, mLst, mDct0, mCall, mRest, mRt, mRtN, mNx, mEx, mIte, mMut, mPut, mIt, bindT, bindTs, isAtom, isLst, isDK, plainAt, wipeE, backE, mFor, mLc, mDc, mWhile, mBk, mCt, mNo, mSl, mNoP, mPt, mJoin, mRng1, mRng2, mZip, mCallK, pickL, mMeth, mProp, mMake, mFld, fnI, fnIR, mDisp, mPairs, o2I, gtI, geI, leI, mStar, mStarT, mStarL, mAugI, mIndex, hb]
theorem blendR_ok (r : Dr) (t : Int) : Ev (m_blendR ⟨[some ⟨drD r, false⟩, some ⟨.int t, false⟩, none, none, none, none], ()⟩) (fun fl s => ∃ n : Int, fl = .rt (.sh (.int n))) := by
  unfold m_blendR
  generalize hF : mFor _ _ _ = F1
  simp [fnM, fnR, ent, mSeq, mSet, mV, mC, mOp1, mOp2, mChain, mAnd, mOr, mNot, mIf, mArgs, escAll, esc, soft, pk, hard, put, puts, mHards, mPar, mTup, mLst, mDct0, mCall, mRest, mRt, mRtN, mNx, mEx, mIte, mMut, mPut, mIt, bindT, bindTs, isAtom, isLst, isDK, plainAt, wipeE, backE, mFor, mLc, mDc, mWhile, mBk, mCt, mNo, mSl, mNoP, mPt, mJoin, mRng1, mRng2, mZip, mCallK, pickL, mMeth, mProp, mMake, mFld, fnI, fnIR, mDisp, mPairs, o2I, gtI, geI, leI, mStar, mStarT, mStarL, mAugI, mIndex]
  subst hF
  refine mFor_ev (ds := [.int 2147483629, .int 2147483587, .int 2147483579, .int 2147483563]) (s1 := ⟨[some ⟨drD r, false⟩, some ⟨.int t, false⟩, some ⟨.int 0, false⟩, none, none, none], ()⟩) (by simp [fnM, fnR, ent, mSeq, mSet, mV, mC, mOp1, mOp2, mChain, mAnd, mOr, mNot, mIf, mArgs, escAll, esc, soft, pk, hard, put, puts, mHards, mPar, mTup, mLst, mDct0, mCall, mRest, mRt, mRtN, mNx, mEx, mIte, mMut, mPut, mIt, bindT, bindTs, isAtom, isLst, isDK, plainAt, wipeE, backE, mFor, mLc, mDc, mWhile, mBk, mCt, mNo, mSl, mNoP, mPt, mJoin, mRng1, mRng2, mZip, mCallK, pickL, mMeth, mProp, mMake, mFld, fnI, fnIR, mDisp, mPairs, o2I, gtI, geI, leI, mStar, mStarT, mStarL, mAugI, mIndex, itemsOf]) ?_
  let I : List D → S Unit → Prop := fun ds s => (∀ d ∈ ds, ∃ p : Int, d = .int p ∧ 0 < p ∧ p < 2147483648) ∧ ∃ (f : Int) (a3 a4 a5 : Option Cell), s = ⟨[some ⟨drD r, false⟩, some ⟨.int t, false⟩, some ⟨.int f, false⟩, a3, a4, a5], ()⟩
  refine (for_ev I (fun fl s => fl = .nx ∧ I [] s) (fun d ds s hs => ?_) (fun s hs => ⟨rfl, hs⟩) _ _ ⟨?_, 0, none, none, none, rfl⟩).mono ?_
  · obtain ⟨hd, f, a3, a4, a5, rfl⟩ := hs
    obtain ⟨p, rfl, hp0, hp1⟩ := hd _ List.mem_cons_self
    have hds := fun d h => hd d (List.mem_cons_of_mem _ h)
    have hpn : p.natAbs < 18446744073709551616 := by omega
    generalize hG : mFor _ _ _ = F2
    have eG : ∀ b a5, 0 ≤ b → b < p → Ev (F2 ⟨[some ⟨drD r, false⟩, some ⟨.int t, false⟩, some ⟨.int f, false⟩, some ⟨.int p, false⟩, some ⟨.int b, false⟩, a5], ()⟩) (fun fl s => fl = .nx ∧ ∃ b a5, 0 ≤ b ∧ b < p ∧ s = ⟨[some ⟨drD r, false⟩, some ⟨.int t, false⟩, some ⟨.int f, false⟩, some ⟨.int p, false⟩, some ⟨.int b, false⟩, a5], ()⟩) := by
      intro b a5 hb0 hb1
      rw [← hG]
      have hix : idxD (drD r) (.str "cells") = some (.sh (.lst (r.cells.map .int))) := rfl
      refine mFor_ev (ds := r.cells.map D.int) (s1 := ⟨[some ⟨drD r, false⟩, some ⟨.int t, false⟩, some ⟨.int f, false⟩, some ⟨.int p, false⟩, some ⟨.int b, false⟩, a5], ()⟩) (by simp [fnM, fnR, ent, mSeq, mSet, mV, mC, mOp1, mOp2, mChain, mAnd, mOr, mNot, mIf, mArgs, escAll, esc, soft, pk, hard, put, puts, mHards, mPar, mTup, mLst, mDct0, mCall, mRest, mRt, mRtN, mNx, mEx, mIte, mMut, mPut, mIt, bindT, bindTs, isAtom, isLst, isDK, plainAt, wipeE, backE, mFor, mLc, mDc, mWhile, mBk, mCt, mNo, mSl, mNoP, mPt, mJoin, mRng1, mRng2, mZip, mCallK, pickL, mMeth, mProp, mMake, mFld, fnI, fnIR, mDisp, mPairs, o2I, gtI, geI, leI, mStar, mStarT, mStarL, mAugI, mIndex, hix, itemsOf]) ?_
      refine for_ev (fun ds s => (∃ cs : List Int, ds = cs.map D.int) ∧ ∃ b a5, 0 ≤ b ∧ b < p ∧ s = ⟨[some ⟨drD r, false⟩, some ⟨.int t, false⟩, some ⟨.int f, false⟩, some ⟨.int p, false⟩, some ⟨.int b, false⟩, a5], ()⟩) _ (fun d ds s hs => ?_) (fun s hs => ⟨rfl, hs.2⟩) _ _ ⟨⟨r.cells, rfl⟩, b, a5, hb0, hb1, rfl⟩
      obtain ⟨⟨cs, hcs⟩, b, a5, hb0, hb1, rfl⟩ := hs
      match cs, hcs with
      | c :: cs, hcs =>
        obtain ⟨rfl, rfl⟩ : d = .int c ∧ ds = cs.map D.int := List.cons.inj hcs
        simp [fnM, fnR, ent, mSeq, mSet, mV, mC, mOp1, mOp2, mChain, mAnd, mOr, mNot, mIf, mArgs, escAll, esc, soft, pk, hard, put, puts, mHards, mPar, mTup, mLst, mDct0, mCall, mRest, mRt, mRtN, mNx, mEx, mIte, mMut, mPut, mIt, bindT, bindTs, isAtom, isLst, isDK, plainAt, wipeE, backE, mFor, mLc, mDc, mWhile, mBk, mCt, mNo, mSl, mNoP, mPt, mJoin, mRng1, mRng2, mZip, mCallK, pickL, mMeth, mProp, mMake, mFld, fnI, fnIR, mDisp, mPairs, o2I, gtI, geI, leI, mStar, mStarT, mStarL, mAugI, mIndex, mul_int b (j := 48271) (by decide), addD, intD, mod_ok _ hp0]
        exact ⟨⟨cs, rfl⟩, Int.emod_nonneg _ (by omega), Int.emod_lt_of_pos _ hp0⟩
    obtain ⟨fl, s, e, rfl, b, a5', hb0, hb1, rfl⟩ := eG ((t * 69621 + p / 7) % p) a5 (Int.emod_nonneg _ (by omega)) (Int.emod_lt_of_pos _ hp0)
    simp [fnM, fnR, ent, mSeq, mSet, mV, mC, mOp1, mOp2, mChain, mAnd, mOr, mNot, mIf, mArgs, escAll, esc, soft, pk, hard, put, puts, mHards, mPar, mTup, mLst, mDct0, mCall, mRest, mRt, mRtN, mNx, mEx, mIte, mMut, mPut, mIt, bindT, bindTs, isAtom, isLst, isDK, plainAt, wipeE, backE, mFor, mLc, mDc, mWhile, mBk, mCt, mNo, mSl, mNoP, mPt, mJoin, mRng1, mRng2, mZip, mCallK, pickL, mMeth, mProp, mMake, mFld, fnI, fnIR, mDisp, mPairs, o2I, gtI, geI, leI, mStar, mStarT, mStarL, mAugI, mIndex, mul_int t (j := 69621) (by decide), div_ok p (j := 7) (by decide) (by decide), addD, intD, mod_ok _ hp0, e, mul_int f (j := 2147483647) (by decide), pow5 (b := b) (by omega)]
    exact ⟨hds, _, _, _, _, rfl⟩
  · intro d hd
    simp only [List.mem_cons, List.not_mem_nil, or_false] at hd
    rcases hd with rfl | rfl | rfl | rfl
    · exact ⟨_, rfl, by decide, by decide⟩
    · exact ⟨_, rfl, by decide, by decide⟩
    · exact ⟨_, rfl, by decide, by decide⟩
    · exact ⟨_, rfl, by decide, by decide⟩
  · rintro fl s ⟨rfl, _, f, a3, a4, a5, rfl⟩
    simp
theorem blend_ok (r : Dr) : ∃ n r', f_blend [.res] r = some (.sh (.int n), r') := by
  obtain ⟨fl, s, e, n, rfl⟩ := blendR_ok { r with turn := r.turn + 1 } (r.turn + 1)
  refine ⟨n, { r with turn := r.turn + 1 }, ?_⟩
  unfold f_blend m_blend
  generalize hB : m_blendR = B at e
  simp [fnM, fnR, ent, mSeq, mSet, mV, mC, mOp1, mOp2, mChain, mAnd, mOr, mNot, mIf, mArgs, escAll, esc, soft, pk, hard, put, puts, mHards, mPar, mTup, mLst, mDct0, mCall, mRest, mRt, mRtN, mNx, mEx, mIte, mMut, mPut, mIt, bindT, bindTs, isAtom, isLst, isDK, plainAt, wipeE, backE, mFor, mLc, mDc, mWhile, mBk, mCt, mNo, mSl, mNoP, mPt, mJoin, mRng1, mRng2, mZip, mCallK, pickL, mMeth, mProp, mMake, mFld, fnI, fnIR, mDisp, mPairs, o2I, gtI, geI, leI, mStar, mStarT, mStarL, mAugI, mIndex, mRG, isRes, addD, mRP, mFrz, frzC, e]
theorem take_ok (b : Bool) : Draws (f_take b) := by
  intro r n h1 h2
  unfold f_take m_take
  generalize hS1 : mIte (mAnd _ _) _ _ = S1
  generalize hS2 : mIte _ _ _ = S2
  have e1 : ∃ r1, S1 ⟨[some ⟨.res, false⟩, some ⟨.int n, false⟩, none], r⟩ = some (.nx, ⟨[some ⟨.res, false⟩, some ⟨.int n, false⟩, none], r1⟩) := by
    rw [← hS1]
    by_cases h : r.rest = 0
    · cases hg : r.great with
      | nil =>
        refine ⟨r, ?_⟩
        simp [fnM, fnR, ent, mSeq, mSet, mV, mC, mOp1, mOp2, mChain, mAnd, mOr, mNot, mIf, mArgs, escAll, esc, soft, pk, hard, put, puts, mHards, mPar, mTup, mLst, mDct0, mCall, mRest, mRt, mRtN, mNx, mEx, mIte, mMut, mPut, mIt, bindT, bindTs, isAtom, isLst, isDK, plainAt, wipeE, backE, mFor, mLc, mDc, mWhile, mBk, mCt, mNo, mSl, mNoP, mPt, mJoin, mRng1, mRng2, mZip, mCallK, pickL, mMeth, mProp, mMake, mFld, fnI, fnIR, mDisp, mPairs, o2I, gtI, geI, leI, mStar, mStarT, mStarL, mAugI, mIndex, mRG, isRes, h, eq_int', mRB, hg]
      | cons g gs =>
        refine ⟨{ r with great := gs, cells := if b then gs else r.cells, rest := g }, ?_⟩
        simp [fnM, fnR, ent, mSeq, mSet, mV, mC, mOp1, mOp2, mChain, mAnd, mOr, mNot, mIf, mArgs, escAll, esc, soft, pk, hard, put, puts, mHards, mPar, mTup, mLst, mDct0, mCall, mRest, mRt, mRtN, mNx, mEx, mIte, mMut, mPut, mIt, bindT, bindTs, isAtom, isLst, isDK, plainAt, wipeE, backE, mFor, mLc, mDc, mWhile, mBk, mCt, mNo, mSl, mNoP, mPt, mJoin, mRng1, mRng2, mZip, mCallK, pickL, mMeth, mProp, mMake, mFld, fnI, fnIR, mDisp, mPairs, o2I, gtI, geI, leI, mStar, mStarT, mStarL, mAugI, mIndex, mRG, isRes, h, eq_int', mRB, hg, mRP, mRPop]
    · refine ⟨r, ?_⟩
      simp [fnM, fnR, ent, mSeq, mSet, mV, mC, mOp1, mOp2, mChain, mAnd, mOr, mNot, mIf, mArgs, escAll, esc, soft, pk, hard, put, puts, mHards, mPar, mTup, mLst, mDct0, mCall, mRest, mRt, mRtN, mNx, mEx, mIte, mMut, mPut, mIt, bindT, bindTs, isAtom, isLst, isDK, plainAt, wipeE, backE, mFor, mLc, mDc, mWhile, mBk, mCt, mNo, mSl, mNoP, mPt, mJoin, mRng1, mRng2, mZip, mCallK, pickL, mMeth, mProp, mMake, mFld, fnI, fnIR, mDisp, mPairs, o2I, gtI, geI, leI, mStar, mStarT, mStarL, mAugI, mIndex, mRG, isRes, h, eq_int']
  obtain ⟨r1, e1⟩ := e1
  have e2 : ∃ r2, S2 ⟨[some ⟨.res, false⟩, some ⟨.int n, false⟩, none], r1⟩ = some (.nx, ⟨[some ⟨.res, false⟩, some ⟨.int n, false⟩, none], r2⟩) := by
    rw [← hS2]
    by_cases h : r1.rest = 0
    · obtain ⟨m, r', e⟩ := blend_ok r1
      refine ⟨{ r' with rest := m }, ?_⟩
      simp [fnM, fnR, ent, mSeq, mSet, mV, mC, mOp1, mOp2, mChain, mAnd, mOr, mNot, mIf, mArgs, escAll, esc, soft, pk, hard, put, puts, mHards, mPar, mTup, mLst, mDct0, mCall, mRest, mRt, mRtN, mNx, mEx, mIte, mMut, mPut, mIt, bindT, bindTs, isAtom, isLst, isDK, plainAt, wipeE, backE, mFor, mLc, mDc, mWhile, mBk, mCt, mNo, mSl, mNoP, mPt, mJoin, mRng1, mRng2, mZip, mCallK, pickL, mMeth, mProp, mMake, mFld, fnI, fnIR, mDisp, mPairs, o2I, gtI, geI, leI, mStar, mStarT, mStarL, mAugI, mIndex, mRG, isRes, h, eq_int', mRP, e]
    · refine ⟨r1, ?_⟩
      simp [fnM, fnR, ent, mSeq, mSet, mV, mC, mOp1, mOp2, mChain, mAnd, mOr, mNot, mIf, mArgs, escAll, esc, soft, pk, hard, put, puts, mHards, mPar, mTup, mLst, mDct0, mCall, mRest, mRt, mRtN, mNx, mEx, mIte, mMut, mPut, mIt, bindT, bindTs, isAtom, isLst, isDK, plainAt, wipeE, backE, mFor, mLc, mDc, mWhile, mBk, mCt, mNo, mSl, mNoP, mPt, mJoin, mRng1, mRng2, mZip, mCallK, pickL, mMeth, mProp, mMake, mFld, fnI, fnIR, mDisp, mPairs, o2I, gtI, geI, leI, mStar, mStarT, mStarL, mAugI, mIndex, mRG, isRes, h, eq_int']
  obtain ⟨r2, e2⟩ := e2
  have hk : ((r2.rest % n).toNat : Int) = r2.rest % n := Int.toNat_of_nonneg (Int.emod_nonneg _ (by omega))
  refine ⟨(r2.rest % n).toNat, { r2 with rest := r2.rest / n }, by rw [hk]; exact Int.emod_lt_of_pos _ h1, ?_⟩
  rw [hk]
  simp [fnM, fnR, ent, mSeq, mSet, mV, mC, mOp1, mOp2, mChain, mAnd, mOr, mNot, mIf, mArgs, escAll, esc, soft, pk, hard, put, puts, mHards, mPar, mTup, mLst, mDct0, mCall, mRest, mRt, mRtN, mNx, mEx, mIte, mMut, mPut, mIt, bindT, bindTs, isAtom, isLst, isDK, plainAt, wipeE, backE, mFor, mLc, mDc, mWhile, mBk, mCt, mNo, mSl, mNoP, mPt, mJoin, mRng1, mRng2, mZip, mCallK, pickL, mMeth, mProp, mMake, mFld, fnI, fnIR, mDisp, mPairs, o2I, gtI, geI, leI, mStar, mStarT, mStarL, mAugI, mIndex, e1, e2, mRG, isRes, intD, mod_ok _ h1, mRP, div_ok _ h1 (show n.natAbs < 1073741824 by omega)]
end RW
namespace RW
open PySem L2
section
variable {R : Type}
/-- a loop over items, by what holds behind those that were seen; it may return -/
theorem each_ret {α : Type} {T : Tg} {mb : MS R} (enc : α → D) (xs : List α) (P : List α → S R → Prop) (Q : Vr → S R → Prop)
    (h : ∀ pre x post s, xs = pre ++ x :: post → P pre s → match bindT T (enc x) s.e with
      | some e' => Ev (mb { s with e := e' }) (fun fl s' => (fl = .nx ∧ P (pre ++ [x]) s') ∨ ∃ v, fl = .rt v ∧ Q v s')
      | none => False) (s : S R) (h0 : P [] s) : Ev (forL T mb (xs.map enc) s) (fun fl s' => (fl = .nx ∧ P xs s') ∨ ∃ v, fl = .rt v ∧ Q v s') := by
  let I : List D → S R → Prop := fun ds s => ∃ pre post, xs = pre ++ post ∧ ds = post.map enc ∧ P pre s
  refine for_ev I _ (fun d ds s hs => ?_) (fun s hs => ?_) _ _ ⟨[], xs, rfl, rfl, h0⟩
  · obtain ⟨pre, post, e1, e2, hp⟩ := hs
    cases post with
    | nil => cases e2
    | cons x post =>
      rw [List.map_cons] at e2
      obtain ⟨rfl, rfl⟩ := List.cons.inj e2
      have q := h pre x post s e1 hp
      split at q
      · rename_i e' eb
        try rw [eb]
        refine q.mono fun fl s' hq => ?_
        rcases hq with ⟨rfl, hq⟩ | ⟨v, rfl, hq⟩
        · exact ⟨pre ++ [x], post, by rw [e1]; simp, rfl, hq⟩
        · exact .inr ⟨v, rfl, hq⟩
      · exact q.elim
  · obtain ⟨pre, post, e1, e2, hp⟩ := hs
    cases post with
    | nil => rw [List.append_nil] at e1; rw [e1]; exact .inl ⟨rfl, hp⟩
    | cons x post => cases e2
theorem each_ev {α : Type} {T : Tg} {mb : MS R} (enc : α → D) (xs : List α) (P : List α → S R → Prop)
    (h : ∀ pre x post s, xs = pre ++ x :: post → P pre s → match bindT T (enc x) s.e with
      | some e' => Ev (mb { s with e := e' }) (fun fl s' => fl = .nx ∧ P (pre ++ [x]) s')
      | none => False) (s : S R) (h0 : P [] s) : Ev (forL T mb (xs.map enc) s) (fun fl s' => fl = .nx ∧ P xs s') := by
  refine (each_ret enc xs P (fun _ _ => False) (fun pre x post s e1 hp => ?_) s h0).mono fun fl s' hq => ?_
  · have q := h pre x post s e1 hp
    split at q
    · rename_i e' eb
      exact q.mono fun fl s' hq => .inl hq
    · exact q.elim
  · rcases hq with hq | ⟨_, _, hq⟩
    · exact hq
    · exact hq.elim
/-- a loop over a range -/
theorem rep_ev {T : Tg} {mb : MS R} (n : Nat) (lo : Int) (P : Nat → S R → Prop)
    (h : ∀ j s, j < n → P j s → match bindT T (.int (lo + j)) s.e with
      | some e' => Ev (mb { s with e := e' }) (fun fl s' => fl = .nx ∧ P (j + 1) s')
      | none => False) (s : S R) (h0 : P 0 s) : Ev (forL T mb (rangeOf n lo) s) (fun fl s' => fl = .nx ∧ P n s') := by
  unfold rangeOf
  refine (each_ev (fun (i : Nat) => D.int (lo + i)) (List.range n) (fun pre s => P pre.length s) (fun pre x post s e1 hp => ?_) s h0).mono fun fl s' hq => ?_
  · have hx : x = pre.length := by
      have : (List.range n)[pre.length]? = some x := by rw [e1]; simp
      rw [List.getElem?_range (by have := congrArg List.length e1; simp at this; omega)] at this
      exact (Option.some.inj this).symm
    have hlt : pre.length < n := by have := congrArg List.length e1; simp at this; omega
    subst hx
    have q := h pre.length s hlt hp
    split at q
    · exact q.mono fun fl s' hq => ⟨hq.1, by simpa using hq.2⟩
    · exact q.elim
  · rw [List.length_range] at hq; exact hq
theorem rep_ret {T : Tg} {mb : MS R} (n : Nat) (lo : Int) (P : Nat → S R → Prop) (Q : Vr → S R → Prop)
    (h : ∀ j s, j < n → P j s → match bindT T (.int (lo + j)) s.e with
      | some e' => Ev (mb { s with e := e' }) (fun fl s' => (fl = .nx ∧ P (j + 1) s') ∨ ∃ v, fl = .rt v ∧ Q v s')
      | none => False) (s : S R) (h0 : P 0 s) : Ev (forL T mb (rangeOf n lo) s) (fun fl s' => (fl = .nx ∧ P n s') ∨ ∃ v, fl = .rt v ∧ Q v s') := by
  unfold rangeOf
  refine (each_ret (fun (i : Nat) => D.int (lo + i)) (List.range n) (fun pre s => P pre.length s) Q (fun pre x post s e1 hp => ?_) s h0).mono fun fl s' hq => ?_
  · have hx : x = pre.length := by
      have : (List.range n)[pre.length]? = some x := by rw [e1]; simp
      rw [List.getElem?_range (by have := congrArg List.length e1; simp at this; omega)] at this
      exact (Option.some.inj this).symm
    have hlt : pre.length < n := by have := congrArg List.length e1; simp at this; omega
    subst hx
    have q := h pre.length s hlt hp
    split at q
    · exact q.mono fun fl s' hq => hq.imp (fun hq => ⟨hq.1, by simpa using hq.2⟩) id
    · exact q.elim
  · rw [List.length_range] at hq; exact hq
end
end RW
namespace Gr
/-! rows of nodes that are led on, rings: plain lists -/
section
variable {α : Type} (N : α → List α)
/-- each is led to the next -/
def Ch : List α → Prop
  | [] => True
  | [_] => True
  | a :: b :: l => b ∈ N a ∧ Ch (b :: l)
variable {N}
theorem Ch.tail {a : α} {l : List α} (h : Ch N (a :: l)) : Ch N l := by
  cases l with
  | nil => trivial
  | cons b l => exact h.2
/-- one more at the end -/
theorem ch_snoc : ∀ {l : List α} {a x : α}, Ch N (l ++ [a, x]) ↔ Ch N (l ++ [a]) ∧ x ∈ N a
  | [], a, x => ⟨fun h => ⟨trivial, h.1⟩, fun h => ⟨h.2, trivial⟩⟩
  | [b], a, x => ⟨fun h => ⟨⟨h.1, trivial⟩, h.2.1⟩, fun h => ⟨h.1.1, h.2, trivial⟩⟩
  | b :: c :: l, a, x => by
    have ih := ch_snoc (l := c :: l) (a := a) (x := x)
    show (c ∈ N b ∧ Ch N (c :: l ++ [a, x])) ↔ (c ∈ N b ∧ Ch N (c :: l ++ [a])) ∧ x ∈ N a
    rw [ih]
    exact ⟨fun h => ⟨⟨h.1, h.2.1⟩, h.2.2⟩, fun h => ⟨h.1.1, h.1.2, h.2⟩⟩
theorem ch_app_left : ∀ {l m : List α}, Ch N (l ++ m) → Ch N l
  | [], _, _ => trivial
  | [_], _, _ => trivial
  | a :: b :: l, m, h => ⟨h.1, ch_app_left (l := b :: l) h.2⟩
theorem ch_app_right : ∀ {l m : List α}, Ch N (l ++ m) → Ch N m
  | [], _, h => h
  | a :: l, m, h => ch_app_right (l := l) (Ch.tail (a := a) h)
theorem ch_join : ∀ {l : List α} {a : α} {m : List α}, Ch N (l ++ [a]) → Ch N (a :: m) → Ch N (l ++ a :: m)
  | [], _, _, _, h => h
  | [b], a, m, h, k => ⟨h.1, k⟩
  | b :: c :: l, a, m, h, k => ⟨h.1, ch_join (l := c :: l) h.2 k⟩
end
section
variable {α : Type} [DecidableEq α] (N : α → List α) (lt : α → α → Prop) [DecidableRel lt]
/-- a row from its least node, all different -/
structure Row (p : List α) : Prop where
  ch : Ch N p
  nd : p.Nodup
  least : ∃ a l, p = a :: l ∧ ∀ x ∈ l, lt a x
/-- a ring, told from its least node -/
structure Ring (p : List α) : Prop extends Row N lt p where
  back : ∃ a l z, p = a :: l ∧ p.getLast? = some z ∧ a ∈ N z
/-- the rows of k + 1 nodes from a node -/
def rows (n : α) : Nat → List (List α)
  | 0 => [[n]]
  | k + 1 => (rows n k).flatMap fun p => ((N (p.getLastD n)).filter fun x => decide (lt n x) && !decide (x ∈ p)).map fun x => p ++ [x]
variable {N lt}
theorem nodup_snoc {p : List α} {x : α} : (p ++ [x]).Nodup ↔ p.Nodup ∧ x ∉ p := by
  rw [List.nodup_append]
  constructor
  · rintro ⟨h1, _, h3⟩
    exact ⟨h1, fun z => h3 x z x (List.mem_singleton.mpr rfl) rfl⟩
  · rintro ⟨h1, h2⟩
    exact ⟨h1, List.pairwise_singleton _ _, fun a ha b hb e => h2 (by rw [List.mem_singleton.mp hb] at e; rw [← e]; exact ha)⟩
theorem row_snoc {l : List α} {a x : α} {n : α} {m : List α} (e : l ++ [a] = n :: m) : Row N lt (l ++ [a] ++ [x]) ↔ Row N lt (l ++ [a]) ∧ x ∈ N a ∧ lt n x ∧ x ∉ l ++ [a] := by
  have e2 : l ++ [a] ++ [x] = l ++ [a, x] := by simp
  constructor
  · rintro ⟨h1, h2, b, k, h3, h4⟩
    rw [e2] at h1
    obtain ⟨c1, c2⟩ := ch_snoc.mp h1
    obtain ⟨d1, d2⟩ := nodup_snoc.mp h2
    rw [e, List.cons_append] at h3
    injection h3 with h3 h5
    subst h3
    refine ⟨⟨c1, d1, n, m, e, fun y hy => h4 y (by rw [← h5]; exact List.mem_append_left _ hy)⟩, c2, h4 x (by rw [← h5]; exact List.mem_append_right _ (List.mem_singleton.mpr rfl)), d2⟩
  · rintro ⟨⟨h1, h2, b, k, h3, h4⟩, h5, h6, h7⟩
    refine ⟨by rw [e2]; exact ch_snoc.mpr ⟨h1, h5⟩, nodup_snoc.mpr ⟨h2, h7⟩, n, m ++ [x], by rw [e]; rfl, fun y hy => ?_⟩
    rcases List.mem_append.mp hy with hy | hy
    · rw [e] at h3
      injection h3 with h8 h9
      subst h8 h9
      exact h4 y hy
    · rw [List.mem_singleton.mp hy]; exact h6
theorem mem_rows {n : α} : ∀ (k : Nat) (p : List α), p ∈ rows N lt n k ↔ Row N lt p ∧ p.length = k + 1 ∧ p.head? = some n
  | 0, p => by
    rw [rows, List.mem_singleton]
    constructor
    · rintro rfl
      exact ⟨⟨trivial, List.pairwise_singleton _ _, n, [], rfl, fun x hx => by simp at hx⟩, rfl, rfl⟩
    · rintro ⟨_, h2, h3⟩
      cases p with
      | nil => cases h2
      | cons a l =>
        cases l with
        | nil => simp at h3; rw [h3]
        | cons b l => simp at h2
  | k + 1, p => by
    rw [rows, List.mem_flatMap]
    constructor
    · rintro ⟨q, hq, hp⟩
      obtain ⟨h1, h2, h3⟩ := (mem_rows k q).mp hq
      obtain ⟨x, hx, rfl⟩ := List.mem_map.mp hp
      obtain ⟨hx1, hx2⟩ := List.mem_filter.mp hx
      rw [Bool.and_eq_true, decide_eq_true_eq, Bool.not_eq_true', decide_eq_false_iff_not] at hx2
      have hne : q ≠ [] := fun z => by rw [z] at h2; cases h2
      obtain ⟨l, a, rfl⟩ : ∃ l a, q = l ++ [a] := ⟨_, _, (List.dropLast_concat_getLast hne).symm⟩
      obtain ⟨m, em⟩ : ∃ m, l ++ [a] = n :: m := by
        cases e : l ++ [a] with
        | nil => simp at e
        | cons b m => rw [e] at h3; simp at h3; rw [h3]; exact ⟨m, rfl⟩
      rw [List.getLastD_concat] at hx1
      refine ⟨(row_snoc em).mpr ⟨h1, hx1, hx2.1, hx2.2⟩, by simp at h2 ⊢; omega, by rw [em]; rfl⟩
    · rintro ⟨h1, h2, h3⟩
      have hne : p ≠ [] := fun z => by rw [z] at h2; cases h2
      obtain ⟨q, x, rfl⟩ : ∃ l a, p = l ++ [a] := ⟨_, _, (List.dropLast_concat_getLast hne).symm⟩
      have hq : q.length = k + 1 := by simp at h2; omega
      have hne : q ≠ [] := fun z => by rw [z] at hq; cases hq
      obtain ⟨l, a, rfl⟩ : ∃ l a, q = l ++ [a] := ⟨_, _, (List.dropLast_concat_getLast hne).symm⟩
      obtain ⟨m, em⟩ : ∃ m, l ++ [a] = n :: m := by
        cases e : l ++ [a] with
        | nil => simp at e
        | cons b m => rw [e] at h3; simp at h3; rw [h3]; exact ⟨m, rfl⟩
      obtain ⟨r1, r2, r3, r4⟩ := (row_snoc em).mp h1
      refine ⟨l ++ [a], (mem_rows k _).mpr ⟨r1, hq, by rw [em]; rfl⟩, List.mem_map.mpr ⟨x, List.mem_filter.mpr ⟨by rw [List.getLastD_concat]; exact r2, ?_⟩, rfl⟩⟩
      rw [Bool.and_eq_true, decide_eq_true_eq, Bool.not_eq_true', decide_eq_false_iff_not]
      exact ⟨r3, r4⟩
end
end Gr
namespace Gr
section
variable {α : Type} [DecidableEq α] {N : α → List α} {lt : α → α → Prop} [DecidableRel lt]
theorem Row.ne {p : List α} (h : Row N lt p) : p ≠ [] := by
  obtain ⟨a, l, rfl, _⟩ := h.least
  exact fun z => nomatch z
/-! ### rings of one length -/
def ringsAt (N : α → List α) (lt : α → α → Prop) [DecidableRel lt] (V : List α) (k : Nat) : List (List α) := V.flatMap fun n => (rows N lt n (k - 1)).filter fun p => decide (n ∈ N (p.getLastD n))
theorem mem_ringsAt {V : List α} {k : Nat} (hk : 1 ≤ k) {p : List α} : p ∈ ringsAt N lt V k ↔ Ring N lt p ∧ p.length = k ∧ ∃ n ∈ V, p.head? = some n := by
  unfold ringsAt
  rw [List.mem_flatMap]
  constructor
  · rintro ⟨n, hn, hp⟩
    obtain ⟨h1, h2⟩ := List.mem_filter.mp hp
    obtain ⟨r1, r2, r3⟩ := (mem_rows _ _).mp h1
    have hne := r1.ne
    obtain ⟨l, z, rfl⟩ : ∃ l a, p = l ++ [a] := ⟨_, _, (List.dropLast_concat_getLast hne).symm⟩
    rw [List.getLastD_concat, decide_eq_true_eq] at h2
    obtain ⟨a, m, e, _⟩ := r1.least
    have ea : a = n := by rw [e] at r3; exact Option.some.inj r3
    subst ea
    exact ⟨⟨r1, a, m, z, e, by simp, h2⟩, by omega, a, hn, r3⟩
  · rintro ⟨h1, h2, n, hn, h3⟩
    refine ⟨n, hn, List.mem_filter.mpr ⟨(mem_rows _ _).mpr ⟨h1.toRow, by omega, h3⟩, ?_⟩⟩
    obtain ⟨a, l, z, e1, e2, e3⟩ := h1.back
    have ea : a = n := by rw [e1] at h3; exact Option.some.inj h3
    subst ea
    rw [decide_eq_true_eq]
    have : p.getLastD a = z := by rw [List.getLastD_eq_getLast?, e2]; rfl
    rw [this]; exact e3
/-! ### all rings, by going on from rows that are left -/
end
end Gr
namespace Gr
section
variable {α : Type} [DecidableEq α] (N : α → List α)
/-- there are k steps on from a node -/
def wk : Nat → α → Bool
  | 0, _ => true
  | k + 1, n => (N n).any (wk k)
variable {N}
theorem wk_succ {k : Nat} {n : α} : wk N (k + 1) n = true ↔ ∃ m ∈ N n, wk N k m = true := by
  rw [wk, List.any_eq_true]
theorem wk_down : ∀ {k : Nat} {n : α}, wk N (k + 1) n = true → wk N k n = true
  | 0, _, _ => rfl
  | k + 1, n, h => by
    obtain ⟨m, hm, h⟩ := wk_succ.mp h
    exact wk_succ.mpr ⟨m, hm, wk_down h⟩
theorem wk_le {k j : Nat} {n : α} (h : j ≤ k) (w : wk N k n = true) : wk N j n = true := by
  induction k with
  | zero => rw [Nat.le_zero.mp h]; rfl
  | succ k ih =>
    rcases Nat.lt_or_ge j (k + 1) with z | z
    · exact ih (by omega) (wk_down w)
    · rw [show j = k + 1 by omega]; exact w
/-- nothing new from step k to the next: nothing new for good -/
theorem wk_stable {V : List α} (hN : ∀ x y, y ∈ N x → y ∈ V) {k : Nat} (h : ∀ n ∈ V, wk N k n = true → wk N (k + 1) n = true) : ∀ (j : Nat) (n : α), n ∈ V → wk N k n = true → wk N (k + j) n = true
  | 0, n, _, w => w
  | j + 1, n, hn, w => by
    obtain ⟨m, hm, w'⟩ := wk_succ.mp (h n hn w)
    exact wk_succ.mpr ⟨m, hm, wk_stable hN h j m (hN n m hm) w'⟩
def cnt (N : α → List α) (V : List α) (k : Nat) : Nat := (V.filter (wk N k)).length
theorem filter_lt {p q : α → Bool} : ∀ {V : List α}, (∀ x ∈ V, q x = true → p x = true) → (V.filter q).length ≤ (V.filter p).length ∧ ((∃ x ∈ V, p x = true ∧ q x = false) → (V.filter q).length < (V.filter p).length)
  | [], _ => ⟨Nat.le_refl _, fun ⟨x, hx, _⟩ => by simp at hx⟩
  | a :: V, h => by
    obtain ⟨h1, h2⟩ := filter_lt (V := V) fun x hx => h x (List.mem_cons_of_mem _ hx)
    have ha := h a List.mem_cons_self
    constructor
    · cases hq : q a with
      | true => simp [List.filter_cons, hq, ha hq]; exact h1
      | false =>
        cases hp : p a with
        | true => simp [List.filter_cons, hq, hp]; omega
        | false => simp [List.filter_cons, hq, hp]; exact h1
    · rintro ⟨x, hx, x1, x2⟩
      rcases List.mem_cons.mp hx with z | z
      · subst z
        simp [List.filter_cons, x1, x2]; omega
      · have := h2 ⟨x, z, x1, x2⟩
        cases hq : q a with
        | true => simp [List.filter_cons, hq, ha hq]; exact this
        | false =>
          cases hp : p a with
          | true => simp [List.filter_cons, hq, hp]; omega
          | false => simp [List.filter_cons, hq, hp]; exact this
theorem cnt_down {V : List α} (hN : ∀ x y, y ∈ N x → y ∈ V) : ∀ k : Nat, (∃ i, i ≤ k ∧ ∀ n ∈ V, wk N i n = true → wk N (i + 1) n = true) ∨ cnt N V (k + 1) + k + 1 ≤ V.length
  | 0 => by
    by_cases h : ∀ n ∈ V, wk N 0 n = true → wk N 1 n = true
    · exact .inl ⟨0, Nat.le_refl _, h⟩
    · right
      have : ∃ x ∈ V, wk N 0 x = true ∧ wk N 1 x = false := by
        refine Classical.byContradiction fun z => h fun n hn w => ?_
        cases e : wk N 1 n with
        | true => rfl
        | false => exact absurd ⟨n, hn, w, e⟩ z
      have a := (filter_lt (p := wk N 0) (q := wk N 1) (V := V) fun x _ => wk_down).2 this
      have b : (V.filter (wk N 0)).length ≤ V.length := List.length_filter_le _ _
      show (V.filter (wk N 1)).length + 0 + 1 ≤ _; omega
  | k + 1 => by
    rcases cnt_down hN k with ⟨i, h1, h2⟩ | h0
    · exact .inl ⟨i, by omega, h2⟩
    · by_cases h : ∀ n ∈ V, wk N (k + 1) n = true → wk N (k + 1 + 1) n = true
      · exact .inl ⟨k + 1, Nat.le_refl _, h⟩
      · right
        have : ∃ x ∈ V, wk N (k + 1) x = true ∧ wk N (k + 1 + 1) x = false := by
          refine Classical.byContradiction fun z => h fun n hn w => ?_
          cases e : wk N (k + 1 + 1) n with
          | true => rfl
          | false => exact absurd ⟨n, hn, w, e⟩ z
        have a := (filter_lt (p := wk N (k + 1)) (q := wk N (k + 1 + 1)) (V := V) fun x _ => wk_down).2 this
        unfold cnt at h0 ⊢; omega
/-- as many steps as there are nodes: any number of steps -/
theorem wk_all {V : List α} (hN : ∀ x y, y ∈ N x → y ∈ V) {n : α} (hn : n ∈ V) (w : wk N V.length n = true) (k : Nat) : wk N k n = true := by
  have pos : 0 < V.length := List.length_pos_of_mem hn
  rcases cnt_down hN (V.length - 1) with ⟨i, h1, h2⟩ | h0
  · have w' := wk_le (j := i) (by omega) w
    exact wk_le (Nat.le_add_left k i) (wk_stable hN h2 k n hn w')
  · rw [show V.length - 1 + 1 = V.length by omega] at h0
    have : 0 < cnt N V V.length := List.length_pos_of_mem (List.mem_filter.mpr ⟨hn, w⟩)
    omega
/-- the most steps from a node, if they are fewer than the nodes -/
def ht (N : α → List α) (m : Nat) (n : α) : Nat := ((List.range m).filter fun k => wk N (k + 1) n).length
theorem ht_eq {m : Nat} {n : α} {v : Nat} (h1 : wk N v n = true) (h2 : wk N (v + 1) n = false) (hv : v ≤ m) : ht N m n = v := by
  have key : ∀ m, ((List.range m).filter fun k => wk N (k + 1) n).length = min m v := by
    intro m
    induction m with
    | zero => simp
    | succ m ih =>
      rw [List.range_succ, List.filter_append, List.length_append, ih]
      rcases Nat.lt_or_ge m v with z | z
      · have : wk N (m + 1) n = true := wk_le (by omega) h1
        simp [List.filter_cons, this]; omega
      · have : wk N (m + 1) n = false := by
          cases e : wk N (m + 1) n with
          | false => rfl
          | true => rw [wk_le (j := v + 1) (by omega) e] at h2; cases h2
        simp [List.filter_cons, this]; omega
  unfold ht
  rw [key]; omega
/-- a node's steps end -/
def Ends (N : α → List α) (n : α) : Prop := ∃ v, wk N v n = true ∧ wk N (v + 1) n = false
end
end Gr
namespace Gr
section
variable {α : Type} [DecidableEq α]
theorem nodup_len : ∀ {w V : List α}, w.Nodup → (∀ x ∈ w, x ∈ V) → w.length ≤ V.length
  | [], _, _, _ => Nat.zero_le _
  | a :: w, V, hn, hV => by
    obtain ⟨h1, h2⟩ := List.nodup_cons.mp hn
    have ha := hV a List.mem_cons_self
    have h3 := nodup_len (w := w) (V := V.erase a) h2 fun x hx => by
      refine (List.mem_erase_of_ne ?_).mpr (hV x (List.mem_cons_of_mem _ hx))
      exact fun z => h1 (z ▸ hx)
    rw [List.length_erase_of_mem ha] at h3
    have := List.length_pos_of_mem ha
    rw [List.length_cons]; omega
theorem twice_at : ∀ {w : List α}, ¬ w.Nodup → ∃ l1 x l2 l3, w = l1 ++ x :: l2 ++ x :: l3 ∧ (x :: l2).Nodup
  | [], h => absurd List.nodup_nil h
  | y :: w, h => by
    by_cases hw : w.Nodup
    · have hy : y ∈ w := Classical.byContradiction fun z => h (List.nodup_cons.mpr ⟨z, hw⟩)
      obtain ⟨l2, l3, rfl⟩ := List.append_of_mem hy
      obtain ⟨n1, n2, n3⟩ := List.nodup_append.mp hw
      exact ⟨[], y, l2, l3, rfl, List.nodup_cons.mpr ⟨fun z => n3 y z y List.mem_cons_self rfl, n1⟩⟩
    · obtain ⟨l1, x, l2, l3, e, hx⟩ := twice_at hw
      exact ⟨y :: l1, x, l2, l3, by rw [e]; rfl, hx⟩
variable (N : α → List α)
inductive Reach (a : α) : α → Prop
  | refl : Reach a a
  | step {b c : α} : Reach a b → c ∈ N b → Reach a c
variable {N}
theorem Reach.head {a b c : α} (h : b ∈ N a) (r : Reach N b c) : Reach N a c := by
  induction r with
  | refl => exact .step .refl h
  | step _ h2 ih => exact .step ih h2
theorem reach_ch : ∀ {l : List α} {a x : α}, Ch N (a :: l) → x ∈ a :: l → Reach N a x
  | [], a, x, _, hx => by rw [List.mem_singleton.mp hx]; exact .refl
  | b :: l, a, x, h, hx => by
    rcases List.mem_cons.mp hx with e | e
    · rw [e]; exact .refl
    · exact Reach.head h.1 (reach_ch h.2 e)
theorem reach_in {V : List α} (hN : ∀ x y, y ∈ N x → y ∈ V) {a b : α} (ha : a ∈ V) (r : Reach N a b) : b ∈ V := by
  induction r with
  | refl => exact ha
  | step _ h _ => exact hN _ _ h
/-- what is closed and has the start has all -/
theorem reach_closed {C : List α} {a b : α} (ha : a ∈ C) (hc : ∀ x ∈ C, ∀ y ∈ N x, y ∈ C) (r : Reach N a b) : b ∈ C := by
  induction r with
  | refl => exact ha
  | step _ h ih => exact hc _ ih _ h
theorem wk_reach {a b : α} (r : Reach N a b) (h : ∀ k, wk N k b = true) : ∀ k, wk N k a = true := by
  induction r with
  | refl => exact h
  | step r1 h1 ih => exact ih fun k => wk_down (wk_succ.mpr ⟨_, h1, h k⟩)
theorem wk_closed {C : List α} (hc : ∀ x ∈ C, ∃ y ∈ N x, y ∈ C) : ∀ (k : Nat) (x : α), x ∈ C → wk N k x = true
  | 0, _, _ => rfl
  | k + 1, x, hx => by
    obtain ⟨y, h1, h2⟩ := hc x hx
    exact wk_succ.mpr ⟨y, h1, wk_closed hc k y h2⟩
/-- along a row that comes back each node is led to one of it -/
theorem ch_next : ∀ {l : List α} {c : α}, Ch N (l ++ [c]) → ∀ x ∈ l, ∃ y ∈ N x, y ∈ l ++ [c]
  | [], _, _, x, hx => by simp at hx
  | [a], c, h, x, hx => by rw [List.mem_singleton.mp hx]; exact ⟨c, h.1, by simp⟩
  | a :: b :: l, c, h, x, hx => by
    rcases List.mem_cons.mp hx with e | e
    · rw [e]; exact ⟨b, h.1, by simp⟩
    · obtain ⟨y, h1, h2⟩ := ch_next (l := b :: l) h.2 x e
      exact ⟨y, h1, List.mem_cons_of_mem _ h2⟩
/-- a row of k + 1 nodes of a node with k steps -/
theorem wk_row : ∀ {k : Nat} {a : α}, wk N k a = true → ∃ l, l.length = k ∧ Ch N (a :: l)
  | 0, a, _ => ⟨[], rfl, trivial⟩
  | k + 1, a, h => by
    obtain ⟨m, hm, h⟩ := wk_succ.mp h
    obtain ⟨l, h1, h2⟩ := wk_row h
    exact ⟨m :: l, by simp [h1], hm, h2⟩
/-- the order -/
structure Lin (lt : α → α → Prop) : Prop where
  irr : ∀ x, ¬ lt x x
  tr : ∀ {x y z}, lt x y → lt y z → lt x z
  tri : ∀ x y, lt x y ∨ x = y ∨ lt y x
variable {lt : α → α → Prop}
theorem least_of (O : Lin lt) : ∀ {c : List α}, c ≠ [] → ∃ a ∈ c, ∀ x ∈ c, x = a ∨ lt a x
  | [], h => absurd rfl h
  | [a], _ => ⟨a, List.mem_singleton.mpr rfl, fun x hx => .inl (List.mem_singleton.mp hx)⟩
  | a :: b :: l, _ => by
    obtain ⟨m, hm, h⟩ := least_of O (c := b :: l) (fun z => nomatch z)
    rcases O.tri a m with t | t | t
    · refine ⟨a, List.mem_cons_self, fun x hx => ?_⟩
      rcases List.mem_cons.mp hx with e | e
      · exact .inl e
      · rcases h x e with z | z
        · rw [z]; exact .inr t
        · exact .inr (O.tr t z)
    · refine ⟨m, List.mem_cons_of_mem _ hm, fun x hx => ?_⟩
      rcases List.mem_cons.mp hx with e | e
      · rw [e]; exact .inl t
      · exact h x e
    · refine ⟨m, List.mem_cons_of_mem _ hm, fun x hx => ?_⟩
      rcases List.mem_cons.mp hx with e | e
      · rw [e]; exact .inr t
      · exact h x e
theorem snoc_of {l : List α} (h : l ≠ []) : ∃ w z, l = w ++ [z] := ⟨_, _, (List.dropLast_concat_getLast h).symm⟩
theorem ch_glue {l m : List α} {a b : α} (h1 : Ch N (l ++ [a])) (h2 : Ch N (b :: m)) (h : b ∈ N a) : Ch N (l ++ [a] ++ b :: m) := by
  have := ch_join (l := l) (a := a) (m := b :: m) h1 ⟨h, h2⟩
  simpa using this
/-- a row that comes back, told from its least node -/
theorem turned (O : Lin lt) {x : α} {l : List α} (hnd : (x :: l).Nodup) (hch : Ch N (x :: l ++ [x])) : ∃ p, Ring N lt p ∧ (∀ y, y ∈ p ↔ y ∈ x :: l) := by
  obtain ⟨a, ha, hl⟩ := least_of O (c := x :: l) (fun z => nomatch z)
  obtain ⟨u, v, e⟩ := List.append_of_mem ha
  have hmem : ∀ y, y ∈ a :: (v ++ u) ↔ y ∈ x :: l := fun y => by
    rw [e]; simp only [List.mem_cons, List.mem_append]
    exact ⟨fun h => by rcases h with h | h | h <;> simp [h], fun h => by rcases h with h | h | h <;> simp [h]⟩
  have hnd' : (a :: (v ++ u)).Nodup := by
    have p : (u ++ a :: v).Perm (a :: (v ++ u)) := List.perm_append_comm.trans (by simp)
    rw [e] at hnd
    exact p.nodup_iff.mp hnd
  rw [e] at hch
  have c1 : Ch N (a :: v ++ [x]) := ch_app_right (l := u) (by simpa using hch)
  have c2 : Ch N (u ++ [a]) := ch_app_left (m := v ++ [x]) (by simpa using hch)
  have hleast : ∀ y ∈ v ++ u, lt a y := fun y hy => by
    rcases hl y ((hmem y).mp (List.mem_cons_of_mem _ hy)) with z | z
    · rw [z] at hy
      exact absurd hy (List.nodup_cons.mp hnd').1
    · exact z
  have last_v : ∃ w z, a :: v = w ++ [z] ∧ x ∈ N z := by
    obtain ⟨w, z, ew⟩ : ∃ w z, a :: v = w ++ [z] := snoc_of (List.cons_ne_nil _ _)
    refine ⟨w, z, ew, ?_⟩
    rw [ew, List.append_assoc] at c1
    exact (ch_snoc.mp c1).2
  obtain ⟨w, z, ew, hz⟩ := last_v
  cases u with
  | nil =>
    have ex : x = a := by injection e
    subst ex
    refine ⟨x :: v, ⟨⟨ch_app_left c1, by simpa using hnd', x, v, rfl, fun y hy => hleast y (by simpa using hy)⟩, x, v, z, rfl, by rw [ew]; simp, hz⟩, fun y => by simpa using hmem y⟩
  | cons b u =>
    have ex : x = b := by injection e
    subst ex
    obtain ⟨w2, z2, ew2⟩ : ∃ w z, x :: u = w ++ [z] := snoc_of (List.cons_ne_nil _ _)
    have hz2 : a ∈ N z2 := by
      rw [ew2, List.append_assoc] at c2
      exact (ch_snoc.mp c2).2
    have cg : Ch N (a :: v ++ x :: u) := by
      rw [ew]
      exact ch_glue (by rw [← ew]; exact ch_app_left c1) (ch_app_left c2) hz
    refine ⟨a :: (v ++ x :: u), ⟨⟨cg, hnd', a, v ++ x :: u, rfl, hleast⟩, a, v ++ x :: u, z2, rfl, ?_, hz2⟩, hmem⟩
    rw [ew2, ← List.cons_append, ← List.append_assoc, List.getLast?_concat]
/-- some ring can be reached exactly if there is no end of steps -/
theorem ring_reached (O : Lin lt) {V : List α} (hN : ∀ x y, y ∈ N x → y ∈ V) {n : α} (hn : n ∈ V) : wk N V.length n = true ↔ ∃ p a, Ring N lt p ∧ (∀ x ∈ p, x ∈ V) ∧ p.head? = some a ∧ Reach N n a := by
  constructor
  · intro h
    obtain ⟨l, h1, h2⟩ := wk_row h
    have hV : ∀ x ∈ n :: l, x ∈ V := fun x hx => reach_in hN hn (reach_ch h2 hx)
    have hnd : ¬ (n :: l).Nodup := fun z => by have := nodup_len z hV; rw [List.length_cons] at this; omega
    obtain ⟨l1, x, l2, l3, e, hx⟩ := twice_at hnd
    have hc : Ch N (x :: l2 ++ [x]) := by
      rw [e] at h2
      have : l1 ++ x :: l2 ++ x :: l3 = l1 ++ ((x :: l2 ++ [x]) ++ l3) := by simp
      rw [this] at h2
      exact ch_app_left (ch_app_right h2)
    obtain ⟨p, hp, hm⟩ := turned O hx hc
    obtain ⟨a, m, ep, _⟩ := hp.least
    have sub : ∀ y ∈ p, y ∈ n :: l := fun y hy => by
      rw [e]
      exact List.mem_append_left _ (List.mem_append_right _ ((hm y).mp hy))
    refine ⟨p, a, hp, fun y hy => hV y (sub y hy), by rw [ep]; rfl, reach_ch h2 (sub a (by rw [ep]; exact List.mem_cons_self))⟩
  · rintro ⟨p, a, hp, hV, ha, hr⟩
    refine wk_reach hr (fun k => wk_closed (C := p) ?_ k a (by cases p with | nil => cases ha | cons b p => simp at ha; rw [ha]; exact List.mem_cons_self)) _
    obtain ⟨b, l, z, e1, e2, e3⟩ := hp.back
    have : Ch N (p ++ [b]) := by
      obtain ⟨w, z', ew⟩ : ∃ w z, p = w ++ [z] := snoc_of (by obtain ⟨a', l', e', _⟩ := hp.least; rw [e']; exact List.cons_ne_nil _ _)
      have ez : z' = z := by rw [ew] at e2; simpa using e2
      subst ez
      rw [ew, List.append_assoc]
      exact ch_snoc.mpr ⟨by rw [← ew]; exact hp.ch, e3⟩
    intro x hx
    obtain ⟨y, h1, h2⟩ := ch_next this x hx
    refine ⟨y, h1, ?_⟩
    rcases List.mem_append.mp h2 with h | h
    · exact h
    · rw [List.mem_singleton.mp h, e1]; exact List.mem_cons_self
end
end Gr
namespace RW
open PySem L2
/-! ### webs: from nodes to the lists of their places -/
abbrev Web := List (Str × List (Option Str))
def dPl (ps : List (Option Str)) : D := .lst (lO ps)
abbrev dW (W : Web) : D := dT dPl W
def kW (W : Web) : List Str := W.map (·.1)
def plW (W : Web) (n : Str) : List (Option Str) := (W.lookup n).getD []
def inW (W : Web) (p : Option Str) : Bool := match p with
  | some x => decide (x ∈ kW W)
  | none => false
def unO (p : Option Str) : Str := p.getD Str.empty
def nx (W : Web) (n : Str) : List Str := ((plW W n).filter (inW W)).map unO
theorem nx_mem {W : Web} {n x : Str} : x ∈ nx W n ↔ some x ∈ plW W n ∧ x ∈ kW W := by
  unfold nx
  rw [List.mem_map]
  constructor
  · rintro ⟨p, hp, rfl⟩
    obtain ⟨h1, h2⟩ := List.mem_filter.mp hp
    cases p with
    | none => cases h2
    | some y => exact ⟨h1, of_decide_eq_true h2⟩
  · rintro ⟨h1, h2⟩
    exact ⟨some x, List.mem_filter.mpr ⟨h1, decide_eq_true h2⟩, rfl⟩
theorem nx_in {W : Web} : ∀ x y, y ∈ nx W x → y ∈ kW W := fun x y h => (nx_mem.mp h).2
theorem nx_len (W : Web) (n : Str) : (nx W n).length ≤ (plW W n).length := by
  unfold nx; rw [List.length_map]; exact List.length_filter_le _ _
theorem look_W {W : Web} {n : Str} (h : n ∈ kW W) : W.lookup n = some (plW W n) := by
  obtain ⟨y, hy⟩ := Option.isSome_iff_exists.mp (look_some.mp h)
  unfold plW; rw [hy]; rfl
def ltS (x y : Str) : Prop := x.cps.toList < y.cps.toList
instance : DecidableRel ltS := fun x y => inferInstanceAs (Decidable (x.cps.toList < y.cps.toList))
/-- of at most m nodes, with at most two places each, never the node itself -/
structure WebOk (W : Web) (m : Nat) : Prop where
  nd : (kW W).Nodup
  len : W.length ≤ m
  two : ∀ n, (plW W n).length ≤ 2
  dif : ∀ n, (plW W n).Nodup
  self : ∀ n, some n ∉ plW W n
section
variable {R : Type} {T : Fm R}
theorem nxD (W : Web) (n : Str) : ((plW W n).filter (inW W)).map dO = dS (nx W n) := by
  unfold nx dS
  rw [List.map_map]
  refine List.map_congr_left fun p hp => ?_
  have h2 := (List.mem_filter.mp hp).2
  cases p with
  | none => cases h2
  | some y => rfl
theorem inD_W (W : Web) (p : Option Str) : inB (dO p) (dW W) = some (inW W p) := by
  rw [in_dTO]
  cases p <;> rfl
theorem next_nodes_ok {W : Web} {n : Str} (hn : n ∈ kW W) (h2 : (plW W n).length ≤ 1000) (r : R) : f_next_nodes T [dW W, .str n] r = some (.tmp (.lst (dS (nx W n))), r) := by
  unfold f_next_nodes m_next_nodes
  generalize hL : mLc _ _ _ _ _ = L
  have eL : L ⟨[some ⟨dW W, false⟩, some ⟨.str n, false⟩, none], r⟩ = some (.tmp (.lst (((plW W n).filter (inW W)).map dO)), ⟨[some ⟨dW W, false⟩, some ⟨.str n, false⟩, none], r⟩) := by
    rw [← hL]
    refine mLc_enc dO (inW W) dO (plW W n) ?_ (by rfl) (fun p hp => ?_) (by unfold sizeLine; omega)
    · simp [fnM, fnR, ent, mSeq, mSet, mV, mC, mOp1, mOp2, mChain, mAnd, mOr, mNot, mIf, mArgs, escAll, esc, soft, pk, hard, put, puts, mHards, mPar, mTup, mLst, mDct0, mCall, mRest, mRt, mRtN, mNx, mEx, mIte, mMut, mPut, mIt, bindT, bindTs, isAtom, isLst, isDK, plainAt, wipeE, backE, mFor, mLc, mDc, mWhile, mBk, mCt, mNo, mSl, mNoP, mPt, mJoin, mRng1, mRng2, mZip, mCallK, pickL, mMeth, mProp, mMake, mFld, fnI, fnIR, mDisp, mPairs, o2I, gtI, geI, leI, mStar, mStarT, mStarL, mAugI, mIndex, idx_dT dPl (look_W hn), dPl, itemsOf, lO]
    · simp [fnM, fnR, ent, mSeq, mSet, mV, mC, mOp1, mOp2, mChain, mAnd, mOr, mNot, mIf, mArgs, escAll, esc, soft, pk, hard, put, puts, mHards, mPar, mTup, mLst, mDct0, mCall, mRest, mRt, mRtN, mNx, mEx, mIte, mMut, mPut, mIt, bindT, bindTs, isAtom, isLst, isDK, plainAt, wipeE, backE, mFor, mLc, mDc, mWhile, mBk, mCt, mNo, mSl, mNoP, mPt, mJoin, mRng1, mRng2, mZip, mCallK, pickL, mMeth, mProp, mMake, mFld, fnI, fnIR, mDisp, mPairs, o2I, gtI, geI, leI, mStar, mStarT, mStarL, mAugI, mIndex, inD, inD_W]
  simp [fnM, fnR, ent, mSeq, mSet, mV, mC, mOp1, mOp2, mChain, mAnd, mOr, mNot, mIf, mArgs, escAll, esc, soft, pk, hard, put, puts, mHards, mPar, mTup, mLst, mDct0, mCall, mRest, mRt, mRtN, mNx, mEx, mIte, mMut, mPut, mIt, bindT, bindTs, isAtom, isLst, isDK, plainAt, wipeE, backE, mFor, mLc, mDc, mWhile, mBk, mCt, mNo, mSl, mNoP, mPt, mJoin, mRng1, mRng2, mZip, mCallK, pickL, mMeth, mProp, mMake, mFld, fnI, fnIR, mDisp, mPairs, o2I, gtI, geI, leI, mStar, mStarT, mStarL, mAugI, mIndex, eL, nxD]
end
end RW
namespace RW
open PySem L2 Gr
section
variable {R : Type} {T : Fm R}
def c0 (od : Option D) : Option Cell := od.map fun d => ⟨d, false⟩
def dR (p : List Str) : D := .tup (dS p)
def stp (W : Web) (n : Str) (p : List Str) : List (List Str) := ((nx W (p.getLastD n)).filter fun x => decide (ltS n x) && !decide (x ∈ p)).map fun x => p ++ [x]
theorem stp_len {W : Web} {m : Nat} (hW : WebOk W m) (n : Str) (p : List Str) : (stp W n p).length ≤ 2 := by
  unfold stp
  rw [List.length_map]
  exact Nat.le_trans (List.length_filter_le _ _) (Nat.le_trans (nx_len _ _) (hW.two _))
theorem flat_len {α β : Type} {f : α → List β} {k : Nat} (h : ∀ x, (f x).length ≤ k) : ∀ l : List α, (l.flatMap f).length ≤ k * l.length
  | [] => by simp
  | a :: l => by
    rw [List.flatMap_cons, List.length_append, List.length_cons, Nat.mul_succ]
    have := h a
    have := flat_len h l
    omega
theorem rows_len {W : Web} {m : Nat} (hW : WebOk W m) (n : Str) : ∀ k, (rows (nx W) ltS n k).length ≤ 2 ^ k
  | 0 => by simp [rows]
  | k + 1 => by
    rw [rows]
    have := flat_len (f := stp W n) (fun p => stp_len hW n p) (rows (nx W) ltS n k)
    have := rows_len hW n k
    rw [Nat.pow_succ]
    show ((rows (nx W) ltS n k).flatMap (stp W n)).length ≤ _
    omega
theorem last_tup (l : List Str) (z : Str) : idxD (dR (l ++ [z])) (.int (-1)) = some (.sh (.str z)) := by
  unfold dR idxD
  have : atI (dS (l ++ [z])) (-1) = some (.str z) := by
    unfold atI ixN
    have h1 : (dS (l ++ [z])).length = l.length + 1 := by simp [dS]
    rw [h1, if_neg (by omega), if_pos (by omega)]
    show (dS (l ++ [z]))[((-1 : Int) + ((l.length + 1 : Nat) : Int)).toNat]? = _
    have h2 : ((-1 : Int) + ((l.length + 1 : Nat) : Int)).toNat = l.length := by omega
    rw [h2]
    simp [dS]
  simp [this, idxS]
theorem neg_one : negD (.int 1) = some (.sh (.int (-1))) := rfl
theorem in_dR (x : Str) (p : List Str) : inB (.str x) (dR p) = some (decide (x ∈ p)) := in_tup x p
theorem seq_dR (p : List Str) : seqOf (dR p) = some (dS p) := rfl
theorem gt_S (x y : Str) : gtD (.str x) (.str y) = some (.sh (.bl (decide (ltS y x)))) := rfl
theorem row_last {W : Web} {n : Str} (hn : n ∈ kW W) {j : Nat} {l : List Str} {z : Str} (h : l ++ [z] ∈ rows (nx W) ltS n j) : z ∈ kW W := by
  obtain ⟨rp, rl, rh⟩ := (mem_rows j _).mp h
  cases l with
  | nil => simp at rh; rw [rh]; exact hn
  | cons c l =>
    obtain ⟨l', y, e⟩ := snoc_of (l := c :: l) (List.cons_ne_nil _ _)
    rw [e, List.append_assoc] at rp
    exact nx_in _ _ (ch_snoc.mp rp.ch).2
theorem in_pl (W : Web) {n : Str} (hn : n ∈ kW W) (z : Str) : inB (.str n) (dPl (plW W z)) = some (decide (n ∈ nx W z)) := by
  have := in_lstO (some n) (plW W z)
  have e : decide (some n ∈ plW W z) = decide (n ∈ nx W z) := by
    by_cases h : some n ∈ plW W z
    · rw [decide_eq_true h, decide_eq_true (nx_mem.mpr ⟨h, hn⟩)]
    · rw [decide_eq_false h, decide_eq_false fun h' => h (nx_mem.mp h').1]
  rw [e] at this
  exact this
theorem rings_from_ok {W : Web} {m : Nat} (hW : WebOk W m) {n : Str} (hn : n ∈ kW W) {k : Nat} (hk : 1 ≤ k) (hk8 : k ≤ 8) (r : R) :
    f_rings_from T [dW W, .str n, .int k] r = some (.tmp (.lst (((rows (nx W) ltS n (k - 1)).filter fun p => decide (n ∈ nx W (p.getLastD n))).map dR)), r) := by
  generalize hX : ((rows (nx W) ltS n (k - 1)).filter fun p => decide (n ∈ nx W (p.getLastD n))).map dR = X0
  suffices h : Ev (f_rings_from T [dW W, .str n, .int k] r) (fun v r' => v = .tmp (.lst X0) ∧ r' = r) by
    obtain ⟨v, r', e, rfl, rfl⟩ := h
    exact e
  unfold f_rings_from m_rings_from
  generalize hF : mFor _ _ _ = F1
  generalize hL : mLc [6] _ _ _ _ = L1
  simp [fnM, fnR, ent, mSeq, mSet, mV, mC, mOp1, mOp2, mChain, mAnd, mOr, mNot, mIf, mArgs, escAll, esc, soft, pk, hard, put, puts, mHards, mPar, mTup, mLst, mDct0, mCall, mRest, mRt, mRtN, mNx, mEx, mIte, mMut, mPut, mIt, bindT, bindTs, isAtom, isLst, isDK, plainAt, wipeE, backE, mFor, mLc, mDc, mWhile, mBk, mCt, mNo, mSl, mNoP, mPt, mJoin, mRng1, mRng2, mZip, mCallK, pickL, mMeth, mProp, mMake, mFld, fnI, fnIR, mDisp, mPairs, o2I, gtI, geI, leI, mStar, mStarT, mStarL, mAugI, mIndex, List.replicate]
  subst hF
  have hb : ∀ j, j ≤ 8 → (rows (nx W) ltS n j).length ≤ 256 := fun j hj => Nat.le_trans (rows_len hW n j) (by
    have : 2 ^ j ≤ 2 ^ 8 := Nat.pow_le_pow_right (by omega) hj
    simpa using this)
  let P : Nat → S R → Prop := fun j s => ∃ (b : Bool) (a4 a5 : Option Cell) (a6 : Option D), s = ⟨[some ⟨dW W, false⟩, some ⟨.str n, false⟩, some ⟨.int k, false⟩, some ⟨.lst ((rows (nx W) ltS n j).map dR), b⟩, a4, a5, c0 a6, none], r⟩
  refine (mFor_ev (ds := rangeOf (k - 1) 0) (s1 := ⟨[some ⟨dW W, false⟩, some ⟨.str n, false⟩, some ⟨.int k, false⟩, some ⟨.lst [.tup [.str n]], true⟩, none, none, none, none], r⟩) (rng1 (i := (k : Int) - 1) (by simp [fnM, fnR, ent, mSeq, mSet, mV, mC, mOp1, mOp2, mChain, mAnd, mOr, mNot, mIf, mArgs, escAll, esc, soft, pk, hard, put, puts, mHards, mPar, mTup, mLst, mDct0, mCall, mRest, mRt, mRtN, mNx, mEx, mIte, mMut, mPut, mIt, bindT, bindTs, isAtom, isLst, isDK, plainAt, wipeE, backE, mFor, mLc, mDc, mWhile, mBk, mCt, mNo, mSl, mNoP, mPt, mJoin, mRng1, mRng2, mZip, mCallK, pickL, mMeth, mProp, mMake, mFld, fnI, fnIR, mDisp, mPairs, o2I, gtI, geI, leI, mStar, mStarT, mStarL, mAugI, mIndex]) (by omega) (by omega)) (rep_ev (k - 1) 0 P (fun j s hj hs => ?_) _ ⟨true, none, none, none, rfl⟩)).mono ?_
  · obtain ⟨b, a4, a5, a6, rfl⟩ := hs
    generalize hF2 : mFor _ _ _ = F2
    simp [fnM, fnR, ent, mSeq, mSet, mV, mC, mOp1, mOp2, mChain, mAnd, mOr, mNot, mIf, mArgs, escAll, esc, soft, pk, hard, put, puts, mHards, mPar, mTup, mLst, mDct0, mCall, mRest, mRt, mRtN, mNx, mEx, mIte, mMut, mPut, mIt, bindT, bindTs, isAtom, isLst, isDK, plainAt, wipeE, backE, mFor, mLc, mDc, mWhile, mBk, mCt, mNo, mSl, mNoP, mPt, mJoin, mRng1, mRng2, mZip, mCallK, pickL, mMeth, mProp, mMake, mFld, fnI, fnIR, mDisp, mPairs, o2I, gtI, geI, leI, mStar, mStarT, mStarL, mAugI, mIndex]
    subst hF2
    let P2 : List (List Str) → S R → Prop := fun pre s => ∃ (a6 : Option D), s = ⟨[some ⟨dW W, false⟩, some ⟨.str n, false⟩, some ⟨.int k, false⟩, some ⟨.lst ((rows (nx W) ltS n j).map dR), false⟩, some ⟨.int j, false⟩, some ⟨.lst ((pre.flatMap (stp W n)).map dR), true⟩, c0 a6, none], r⟩
    refine (mFor_ev (ds := (rows (nx W) ltS n j).map dR) (s1 := ⟨[some ⟨dW W, false⟩, some ⟨.str n, false⟩, some ⟨.int k, false⟩, some ⟨.lst ((rows (nx W) ltS n j).map dR), false⟩, some ⟨.int j, false⟩, some ⟨.lst [], true⟩, c0 a6, none], r⟩) (by cases b <;> simp [fnM, fnR, ent, mSeq, mSet, mV, mC, mOp1, mOp2, mChain, mAnd, mOr, mNot, mIf, mArgs, escAll, esc, soft, pk, hard, put, puts, mHards, mPar, mTup, mLst, mDct0, mCall, mRest, mRt, mRtN, mNx, mEx, mIte, mMut, mPut, mIt, bindT, bindTs, isAtom, isLst, isDK, plainAt, wipeE, backE, mFor, mLc, mDc, mWhile, mBk, mCt, mNo, mSl, mNoP, mPt, mJoin, mRng1, mRng2, mZip, mCallK, pickL, mMeth, mProp, mMake, mFld, fnI, fnIR, mDisp, mPairs, o2I, gtI, geI, leI, mStar, mStarT, mStarL, mAugI, mIndex, itemsOf]) (each_ev dR (rows (nx W) ltS n j) P2 (fun pre p post s e1 hs => ?_) _ ⟨a6, rfl⟩)).mono ?_
    · obtain ⟨a6, rfl⟩ := hs
      have hp : p ∈ rows (nx W) ltS n j := by rw [e1]; simp
      obtain ⟨rp, rl, rh⟩ := (mem_rows j p).mp hp
      obtain ⟨l, z, rfl⟩ := snoc_of rp.ne
      have hz : z ∈ kW W := row_last hn hp
      have hst : stp W n (l ++ [z]) = ((nx W z).filter fun x => decide (ltS n x) && !decide (x ∈ l ++ [z])).map fun x => l ++ [z] ++ [x] := by
        unfold stp; rw [List.getLastD_concat]
      generalize hL2 : mLc _ _ _ _ _ = L2
      have eL2 : L2 ⟨[some ⟨dW W, false⟩, some ⟨.str n, false⟩, some ⟨.int k, false⟩, some ⟨.lst ((rows (nx W) ltS n j).map dR), false⟩, some ⟨.int j, false⟩, some ⟨.lst ((pre.flatMap (stp W n)).map dR), true⟩, some ⟨dR (l ++ [z]), false⟩, none], r⟩ = some (.tmp (.lst ((stp W n (l ++ [z])).map dR)), ⟨[some ⟨dW W, false⟩, some ⟨.str n, false⟩, some ⟨.int k, false⟩, some ⟨.lst ((rows (nx W) ltS n j).map dR), false⟩, some ⟨.int j, false⟩, some ⟨.lst ((pre.flatMap (stp W n)).map dR), true⟩, some ⟨dR (l ++ [z]), false⟩, none], r⟩) := by
        rw [← hL2, hst, List.map_map]
        refine mLc_enc D.str (fun x => decide (ltS n x) && !decide (x ∈ l ++ [z])) _ (nx W z) ?_ (by rfl) (fun x hx => ?_) (by have := nx_len W z; have := hW.two z; unfold sizeLine; omega)
        · simp [fnM, fnR, ent, mSeq, mSet, mV, mC, mOp1, mOp2, mChain, mAnd, mOr, mNot, mIf, mArgs, escAll, esc, soft, pk, hard, put, puts, mHards, mPar, mTup, mLst, mDct0, mCall, mRest, mRt, mRtN, mNx, mEx, mIte, mMut, mPut, mIt, bindT, bindTs, isAtom, isLst, isDK, plainAt, wipeE, backE, mFor, mLc, mDc, mWhile, mBk, mCt, mNo, mSl, mNoP, mPt, mJoin, mRng1, mRng2, mZip, mCallK, pickL, mMeth, mProp, mMake, mFld, fnI, fnIR, mDisp, mPairs, o2I, gtI, geI, leI, mStar, mStarT, mStarL, mAugI, mIndex, neg_one, last_tup, next_nodes_ok hz (by have := hW.two z; omega), itemsOf, dS]
        · by_cases h1 : ltS n x
          · have hl : l.length + 1 + 1 ≤ sizeLine := by
              have : (l ++ [z]).length = j + 1 := rl
              simp at this
              unfold sizeLine; omega
            simp [fnM, fnR, ent, mSeq, mSet, mV, mC, mOp1, mOp2, mChain, mAnd, mOr, mNot, mIf, mArgs, escAll, esc, soft, pk, hard, put, puts, mHards, mPar, mTup, mLst, mDct0, mCall, mRest, mRt, mRtN, mNx, mEx, mIte, mMut, mPut, mIt, bindT, bindTs, isAtom, isLst, isDK, plainAt, wipeE, backE, mFor, mLc, mDc, mWhile, mBk, mCt, mNo, mSl, mNoP, mPt, mJoin, mRng1, mRng2, mZip, mCallK, pickL, mMeth, mProp, mMake, mFld, fnI, fnIR, mDisp, mPairs, o2I, gtI, geI, leI, mStar, mStarT, mStarL, mAugI, mIndex, gt_S, ninD, in_dR, seq_dR, h1, dS_length, hl]
            intro _ _
            simp [dR, dS]
          · simp [fnM, fnR, ent, mSeq, mSet, mV, mC, mOp1, mOp2, mChain, mAnd, mOr, mNot, mIf, mArgs, escAll, esc, soft, pk, hard, put, puts, mHards, mPar, mTup, mLst, mDct0, mCall, mRest, mRt, mRtN, mNx, mEx, mIte, mMut, mPut, mIt, bindT, bindTs, isAtom, isLst, isDK, plainAt, wipeE, backE, mFor, mLc, mDc, mWhile, mBk, mCt, mNo, mSl, mNoP, mPt, mJoin, mRng1, mRng2, mZip, mCallK, pickL, mMeth, mProp, mMake, mFld, fnI, fnIR, mDisp, mPairs, o2I, gtI, geI, leI, mStar, mStarT, mStarL, mAugI, mIndex, gt_S, h1]
      have hsz : (pre.flatMap (stp W n)).length + (stp W n (l ++ [z])).length ≤ sizeLine := by
        have h1 := flat_len (f := stp W n) (fun p => stp_len hW n p) pre
        have h2 := stp_len hW n (l ++ [z])
        have h3 : pre.length ≤ (rows (nx W) ltS n j).length := by rw [e1]; simp
        have h4 := hb j (by omega)
        unfold sizeLine; omega
      have hP : P2 (pre ++ [l ++ [z]]) ⟨[some ⟨dW W, false⟩, some ⟨.str n, false⟩, some ⟨.int k, false⟩, some ⟨.lst ((rows (nx W) ltS n j).map dR), false⟩, some ⟨.int j, false⟩, some ⟨.lst ((pre.flatMap (stp W n)).map dR ++ (stp W n (l ++ [z])).map dR), true⟩, some ⟨dR (l ++ [z]), false⟩, none], r⟩ := by
        refine ⟨some (dR (l ++ [z])), ?_⟩
        rw [List.flatMap_append, List.flatMap_cons, List.flatMap_nil, List.append_nil, List.map_append]; rfl
      generalize stp W n (l ++ [z]) = Y at eL2 hsz hP
      generalize pre.flatMap (stp W n) = Z at eL2 hsz hP
      generalize hPP : P2 (pre ++ [l ++ [z]]) = PP at hP
      simp [fnM, fnR, ent, mSeq, mSet, mV, mC, mOp1, mOp2, mChain, mAnd, mOr, mNot, mIf, mArgs, escAll, esc, soft, pk, hard, put, puts, mHards, mPar, mTup, mLst, mDct0, mCall, mRest, mRt, mRtN, mNx, mEx, mIte, mMut, mPut, mIt, bindT, bindTs, isAtom, isLst, isDK, plainAt, wipeE, backE, mFor, mLc, mDc, mWhile, mBk, mCt, mNo, mSl, mNoP, mPt, mJoin, mRng1, mRng2, mZip, mCallK, pickL, mMeth, mProp, mMake, mFld, fnI, fnIR, mDisp, mPairs, o2I, gtI, geI, leI, mStar, mStarT, mStarL, mAugI, mIndex, eL2, extL, hsz, hP]
    · rintro fl s' ⟨rfl, a6, rfl⟩
      simp [fnM, fnR, ent, mSeq, mSet, mV, mC, mOp1, mOp2, mChain, mAnd, mOr, mNot, mIf, mArgs, escAll, esc, soft, pk, hard, put, puts, mHards, mPar, mTup, mLst, mDct0, mCall, mRest, mRt, mRtN, mNx, mEx, mIte, mMut, mPut, mIt, bindT, bindTs, isAtom, isLst, isDK, plainAt, wipeE, backE, mFor, mLc, mDc, mWhile, mBk, mCt, mNo, mSl, mNoP, mPt, mJoin, mRng1, mRng2, mZip, mCallK, pickL, mMeth, mProp, mMake, mFld, fnI, fnIR, mDisp, mPairs, o2I, gtI, geI, leI, mStar, mStarT, mStarL, mAugI, mIndex]
      exact ⟨false, _, _, a6, rfl⟩
  · rintro fl s' ⟨rfl, b, a4, a5, a6, rfl⟩
    have eL : L1 ⟨[some ⟨dW W, false⟩, some ⟨.str n, false⟩, some ⟨.int k, false⟩, some ⟨.lst ((rows (nx W) ltS n (k - 1)).map dR), b⟩, a4, a5, c0 a6, none], r⟩ = some (.tmp (.lst X0), ⟨[some ⟨dW W, false⟩, some ⟨.str n, false⟩, some ⟨.int k, false⟩, some ⟨.lst ((rows (nx W) ltS n (k - 1)).map dR), false⟩, a4, a5, c0 a6, none], r⟩) := by
      rw [← hL, ← hX]
      refine mLc_enc dR (fun p => decide (n ∈ nx W (p.getLastD n))) dR (rows (nx W) ltS n (k - 1)) ?_ (by cases a6 <;> rfl) (fun p hp => ?_) (by have := hb (k - 1) (by omega); unfold sizeLine; omega)
      · cases b <;> simp [fnM, fnR, ent, mSeq, mSet, mV, mC, mOp1, mOp2, mChain, mAnd, mOr, mNot, mIf, mArgs, escAll, esc, soft, pk, hard, put, puts, mHards, mPar, mTup, mLst, mDct0, mCall, mRest, mRt, mRtN, mNx, mEx, mIte, mMut, mPut, mIt, bindT, bindTs, isAtom, isLst, isDK, plainAt, wipeE, backE, mFor, mLc, mDc, mWhile, mBk, mCt, mNo, mSl, mNoP, mPt, mJoin, mRng1, mRng2, mZip, mCallK, pickL, mMeth, mProp, mMake, mFld, fnI, fnIR, mDisp, mPairs, o2I, gtI, geI, leI, mStar, mStarT, mStarL, mAugI, mIndex, itemsOf]
      · obtain ⟨rp, rl, rh⟩ := (mem_rows _ p).mp hp
        obtain ⟨l, z, rfl⟩ := snoc_of rp.ne
        have hz : z ∈ kW W := row_last hn hp
        rw [List.getLastD_concat]
        cases a6 <;> simp [fnM, fnR, ent, mSeq, mSet, mV, mC, mOp1, mOp2, mChain, mAnd, mOr, mNot, mIf, mArgs, escAll, esc, soft, pk, hard, put, puts, mHards, mPar, mTup, mLst, mDct0, mCall, mRest, mRt, mRtN, mNx, mEx, mIte, mMut, mPut, mIt, bindT, bindTs, isAtom, isLst, isDK, plainAt, wipeE, backE, mFor, mLc, mDc, mWhile, mBk, mCt, mNo, mSl, mNoP, mPt, mJoin, mRng1, mRng2, mZip, mCallK, pickL, mMeth, mProp, mMake, mFld, fnI, fnIR, mDisp, mPairs, o2I, gtI, geI, leI, mStar, mStarT, mStarL, mAugI, mIndex, c0, neg_one, last_tup, idx_dT dPl (look_W hz), inD, in_pl W hn]
    simp [fnM, fnR, ent, mSeq, mSet, mV, mC, mOp1, mOp2, mChain, mAnd, mOr, mNot, mIf, mArgs, escAll, esc, soft, pk, hard, put, puts, mHards, mPar, mTup, mLst, mDct0, mCall, mRest, mRt, mRtN, mNx, mEx, mIte, mMut, mPut, mIt, bindT, bindTs, isAtom, isLst, isDK, plainAt, wipeE, backE, mFor, mLc, mDc, mWhile, mBk, mCt, mNo, mSl, mNoP, mPt, mJoin, mRng1, mRng2, mZip, mCallK, pickL, mMeth, mProp, mMake, mFld, fnI, fnIR, mDisp, mPairs, o2I, gtI, geI, leI, mStar, mStarT, mStarL, mAugI, mIndex, eL]
end
end RW
namespace RW
open PySem L2 Gr
/-! ### a model at the bounds -/
instance (xs : List Str) : Decidable (Up xs) := by unfold Up; exact inferInstance
end RW
namespace RW
open PySem L2 Gr
/-! ### lines that are turned about -/
structure Line (e : Str) (row : List Str) : Prop where
  nd : (e :: row).Nodup
  nm : ∀ x ∈ e :: row, isName x
  l2 : 2 ≤ row.length
  l6 : row.length ≤ 6
section
variable {e : Str} {row : List Str} (h : Line e row)
include h
theorem Line.rn : row.Nodup := (List.nodup_cons.mp h.nd).2
end
end RW
namespace Gr
section
variable {α : Type} [DecidableEq α] (N : α → List α)
/-- the steps from x end behind v -/
def EndsAt (x : α) (v : Nat) : Prop := wk N v x = true ∧ wk N (v + 1) x = false
/-- one more than the greatest, 0 of none -/
def mx : List Nat → Nat
  | [] => 0
  | a :: l => max (a + 1) (mx l)
variable {N}
theorem mx_ge : ∀ {l : List Nat} {a : Nat}, a ∈ l → a + 1 ≤ mx l
  | b :: l, a, h => by
    rw [mx]
    rcases List.mem_cons.mp h with e | h
    · subst e; omega
    · have := mx_ge h; omega
theorem mx_at : ∀ {l : List Nat}, l ≠ [] → ∃ a ∈ l, mx l = a + 1
  | [a], _ => ⟨a, List.mem_singleton.mpr rfl, by simp [mx]⟩
  | a :: b :: l, _ => by
    obtain ⟨c, hc, e⟩ := mx_at (l := b :: l) (List.cons_ne_nil _ _)
    rcases Nat.lt_or_ge (a + 1) (mx (b :: l)) with h | h
    · refine ⟨c, List.mem_cons_of_mem _ hc, ?_⟩
      rw [mx]; omega
    · refine ⟨a, List.mem_cons_self, ?_⟩
      rw [mx]; omega
theorem ends_next {x : α} {f : α → Nat} (h : ∀ y ∈ N x, EndsAt N y (f y)) : EndsAt N x (mx ((N x).map f)) := by
  constructor
  · by_cases hn : N x = []
    · rw [hn]; rfl
    · obtain ⟨a, ha, e⟩ := mx_at (l := (N x).map f) (by simpa using hn)
      obtain ⟨y, hy, rfl⟩ := List.mem_map.mp ha
      rw [e]
      exact wk_succ.mpr ⟨y, hy, (h y hy).1⟩
  · cases hw : wk N (mx ((N x).map f) + 1) x with
    | false => rfl
    | true =>
      obtain ⟨y, hy, w⟩ := wk_succ.mp hw
      have := mx_ge (List.mem_map_of_mem (f := f) hy)
      have := wk_le this w
      rw [(h y hy).2] at this; cases this
theorem ends_lt {V : List α} (hN : ∀ x y, y ∈ N x → y ∈ V) {x : α} (hx : x ∈ V) {v : Nat} (h : EndsAt N x v) : v < V.length := by
  rcases Nat.lt_or_ge v V.length with z | z
  · exact z
  · have := wk_all hN hx (wk_le z h.1) (v + 1)
    rw [h.2] at this; cases this
theorem ends_ht {V : List α} (hN : ∀ x y, y ∈ N x → y ∈ V) {x : α} (hx : x ∈ V) {v : Nat} (h : EndsAt N x v) : ht N V.length x = v := ht_eq h.1 h.2 (Nat.le_of_lt (ends_lt hN hx h))
/-- where the steps of a node end, those of the next ones do, earlier -/
theorem ends_down {x y : α} {k : Nat} (hy : y ∈ N x) (h : wk N (k + 1) x = false) : wk N k y = false := by
  cases hw : wk N k y with
  | false => rfl
  | true =>
    rw [wk_succ.mpr ⟨y, hy, hw⟩] at h; cases h
/-- rows of nodes from a node, each led to the next -/
def rws (n : α) : Nat → List (List α)
  | 0 => [[n]]
  | k + 1 => (rws n k).flatMap fun p => (N (p.getLastD n)).map fun x => p ++ [x]
theorem mem_rws {n : α} : ∀ (k : Nat) (p : List α), p ∈ rws (N := N) n k ↔ Ch N p ∧ p.length = k + 1 ∧ p.head? = some n
  | 0, p => by
    rw [rws, List.mem_singleton]
    constructor
    · rintro rfl; exact ⟨trivial, rfl, rfl⟩
    · rintro ⟨_, h1, h2⟩
      match p, h1, h2 with
      | [a], _, h2 => simp at h2; rw [h2]
  | k + 1, p => by
    rw [rws, List.mem_flatMap]
    constructor
    · rintro ⟨q, hq, hp⟩
      obtain ⟨c, hl, hh⟩ := (mem_rws k q).mp hq
      obtain ⟨x, hx, rfl⟩ := List.mem_map.mp hp
      obtain ⟨l, z, rfl⟩ := snoc_of (l := q) (by intro e; rw [e] at hl; simp at hl)
      rw [List.getLastD_concat] at hx
      refine ⟨?_, by simp at hl ⊢; omega, ?_⟩
      · rw [List.append_assoc]; exact ch_snoc.mpr ⟨c, hx⟩
      · cases l with
        | nil => simpa using hh
        | cons b l => simpa using hh
    · rintro ⟨c, hl, hh⟩
      obtain ⟨q, x, rfl⟩ := snoc_of (l := p) (by intro e; rw [e] at hl; simp at hl)
      have hql : q.length = k + 1 := by simpa using hl
      obtain ⟨l, z, rfl⟩ := snoc_of (l := q) (by intro e; rw [e] at hql; simp at hql)
      rw [List.append_assoc] at c
      obtain ⟨c1, c2⟩ := ch_snoc.mp c
      refine ⟨l ++ [z], (mem_rws k _).mpr ⟨c1, hql, ?_⟩, List.mem_map.mpr ⟨x, by rw [List.getLastD_concat]; exact c2, rfl⟩⟩
      cases l with
      | nil => simpa using hh
      | cons b l => simpa using hh
theorem rws_nil {n : α} {k : Nat} (h : rws (N := N) n k = []) : wk N k n = false := by
  cases hw : wk N k n with
  | false => rfl
  | true =>
    obtain ⟨l, hl, c⟩ := wk_row hw
    have : n :: l ∈ rws (N := N) n k := (mem_rws k _).mpr ⟨c, by simp [hl], rfl⟩
    rw [h] at this; cases this
end
end Gr
namespace RW
open PySem L2 Gr
/-! ### the least ranks -/
def dN (v : Nat) : D := .int v
abbrev Rk := List (Str × Nat)
def inK (t : Rk) (y : Str) : Bool := decide (y ∈ t.map (·.1))
def rkAt (t : Rk) (x : Str) : Nat := (t.lookup x).getD 0
/-- the ranks of a mixture, if there are any -/
def rkW (W : Web) : Option Rk := if (kW W).all (fun x => !wk (nx W) W.length x) = true then some ((kW W).map fun x => (x, ht (nx W) W.length x)) else none
def vRk : Option Rk → Vr
  | none => .sh .non
  | some t => .tmp (dT dN t)
theorem rk_look {t : Rk} {x : Str} (h : x ∈ t.map (·.1)) : t.lookup x = some (rkAt t x) := by
  obtain ⟨y, hy⟩ := Option.isSome_iff_exists.mp (look_some.mp h)
  unfold rkAt; rw [hy]; rfl
theorem intsOf_N : ∀ l : List Nat, intsOf (l.map dN) = some (l.map fun (k : Nat) => (k : Int))
  | [] => rfl
  | a :: l => by
    rw [List.map_cons]
    show (intsOf (l.map dN)).map _ = _
    rw [intsOf_N l]; rfl
theorem max_mx : ∀ (l : List Nat) (a : Int), -1 ≤ a → (l.map fun (k : Nat) => (k : Int)).foldl max a = max a ((mx l : Int) - 1)
  | [], a, h => by simp [mx]; omega
  | b :: l, a, h => by
    rw [List.map_cons, List.foldl_cons, max_mx l _ (by omega), mx]; omega
theorem max_neg (l : List Nat) : max1 (.lst (.int (-1) :: l.map dN)) = some (.sh (.int ((mx l : Int) - 1))) := by
  have h : intsOf (.int (-1) :: l.map dN) = some ((-1) :: l.map fun (k : Nat) => (k : Int)) := by
    show (intsOf (l.map dN)).map _ = _
    rw [intsOf_N]; rfl
  show (intsOf (.int (-1) :: l.map dN)).bind _ = _
  rw [h]
  have := max_mx l (-1) (by omega)
  simp [maxI, this]
  omega
section
variable {R : Type} {T : Fm R}
/-- what holds between the steps of ranks_in: pre of turn j -/
structure RkI (W : Web) (j : Nat) (pre : List Str) (t : Rk) : Prop where
  nd : (t.map (·.1)).Nodup
  ok : ∀ p ∈ t, p.1 ∈ kW W ∧ EndsAt (nx W) p.1 p.2
  all : ∀ x ∈ kW W, wk (nx W) j x = false → x ∈ t.map (·.1)
  new : ∀ x ∈ pre, wk (nx W) (j + 1) x = false → x ∈ t.map (·.1)
theorem RkI.len {W : Web} {j : Nat} {pre : List Str} {t : Rk} (h : RkI W j pre t) : t.length ≤ W.length := by
  have := nodup_len h.nd (V := kW W) fun x hx => by
    obtain ⟨p, hp, rfl⟩ := List.mem_map.mp hx
    exact (h.ok p hp).1
  rw [List.length_map] at this
  unfold kW at this
  rw [List.length_map] at this
  exact this
theorem RkI.at {W : Web} {j : Nat} {pre : List Str} {t : Rk} (h : RkI W j pre t) {x : Str} (hx : x ∈ t.map (·.1)) : EndsAt (nx W) x (rkAt t x) := by
  obtain ⟨p, hp, rfl⟩ := List.mem_map.mp hx
  have := lookup_of_mem h.nd hp
  unfold rkAt
  rw [this]
  exact (h.ok p hp).2
theorem RkI.put {W : Web} {j : Nat} {pre : List Str} {t : Rk} (h : RkI W j pre t) {x : Str} (hx : x ∈ kW W) (hn : x ∉ t.map (·.1)) (ha : ∀ y ∈ nx W x, y ∈ t.map (·.1)) : RkI W j (pre ++ [x]) (t ++ [(x, mx ((nx W x).map (rkAt t)))]) := by
  refine ⟨?_, fun p hp => ?_, fun y hy hw => ?_, fun y hy hw => ?_⟩
  · rw [List.map_append]
    exact nodup_snoc.mpr ⟨h.nd, hn⟩
  · rcases List.mem_append.mp hp with z | z
    · exact h.ok p z
    · rw [List.mem_singleton.mp z]
      exact ⟨hx, ends_next fun y hy => h.at (ha y hy)⟩
  · rw [List.map_append]; exact List.mem_append_left _ (h.all y hy hw)
  · rw [List.map_append]
    rcases List.mem_append.mp hy with z | z
    · exact List.mem_append_left _ (h.new y z hw)
    · rw [List.mem_singleton.mp z]; simp
theorem RkI.skip {W : Web} {j : Nat} {pre : List Str} {t : Rk} (h : RkI W j pre t) {x : Str} (hx : x ∈ kW W) (hc : x ∈ t.map (·.1) ∨ ∃ y ∈ nx W x, y ∉ t.map (·.1)) : RkI W j (pre ++ [x]) t := by
  refine ⟨h.nd, h.ok, h.all, fun y hy hw => ?_⟩
  rcases List.mem_append.mp hy with z | z
  · exact h.new y z hw
  · rw [List.mem_singleton.mp z] at hw ⊢
    rcases hc with hc | ⟨y, h1, h2⟩
    · exact hc
    · exact absurd (h.all y (nx_in _ _ h1) (ends_down h1 hw)) h2
theorem put_N {t : Rk} {k : Str} {v : Nat} (h : t.length < 1000) (hk : k ∉ t.map (·.1)) : putD (dT dN t) (.str k) (.int v) = some (dT dN (t ++ [(k, v)])) := by
  have := putD_dT dN t k v (by unfold sizeLine; omega)
  rw [putT_new hk] at this
  exact this
theorem bl_all (l : List Str) (t : Rk) : allD (.lst (l.map fun y => .bl (inK t y))) = some (.sh (.bl (l.all fun y => inK t y))) := by
  have := all_bl (l.map fun y => inK t y)
  rw [List.map_map] at this
  rw [show (l.all fun y => inK t y) = (l.map fun y => inK t y).all id by rw [List.all_map]; rfl]
  exact this
theorem RkI.full {W : Web} {pre : List Str} {t : Rk} (hnd : (kW W).Nodup) (h : RkI W W.length pre t) : (t.length = W.length) ↔ (kW W).all (fun x => !wk (nx W) W.length x) = true := by
  have hkl : (kW W).length = W.length := by unfold kW; rw [List.length_map]
  rw [List.all_eq_true]
  constructor
  · intro hl x hx
    by_cases hxt : x ∈ t.map (·.1)
    · have he := h.at hxt
      cases hw : wk (nx W) W.length x with
      | false => rfl
      | true =>
        have := wk_all nx_in hx (by rw [hkl]; exact hw) (rkAt t x + 1)
        rw [he.2] at this; cases this
    · exfalso
      have h2 : (x :: t.map (·.1)).Nodup := List.nodup_cons.mpr ⟨hxt, h.nd⟩
      have := nodup_len h2 (V := kW W) fun y hy => by
        rcases List.mem_cons.mp hy with e | hy
        · rw [e]; exact hx
        · obtain ⟨p, hp, rfl⟩ := List.mem_map.mp hy
          exact (h.ok p hp).1
      rw [List.length_cons, List.length_map, hkl] at this
      omega
  · intro ha
    have := nodup_len hnd (V := t.map (·.1)) fun x hx => h.all x hx (by simpa using ha x hx)
    rw [hkl, List.length_map] at this
    have := h.len
    omega
theorem ranks_in_ok {W : Web} {m : Nat} (hW : WebOk W m) (hm : m ≤ 6) (r : R) : f_ranks_in T [dW W] r = some (vRk (rkW W), r) := by
  suffices h : Ev (f_ranks_in T [dW W] r) (fun v r' => v = vRk (rkW W) ∧ r' = r) by
    obtain ⟨v, r', e, rfl, rfl⟩ := h
    exact e
  have hlen := hW.len
  have hkl : (kW W).length = W.length := by unfold kW; rw [List.length_map]
  have rk0 : RkI W 0 [] [] := ⟨by simp, fun p hp => by simp at hp, fun x _ hw => (by rw [wk] at hw; cases hw), fun x hx => by simp at hx⟩
  unfold f_ranks_in m_ranks_in
  generalize hF : mFor _ _ _ = F1
  generalize hC : mDc _ _ _ _ _ _ = C1
  simp [fnM, fnR, ent, mSeq, mSet, mV, mC, mOp1, mOp2, mChain, mAnd, mOr, mNot, mIf, mArgs, escAll, esc, soft, pk, hard, put, puts, mHards, mPar, mTup, mLst, mDct0, mCall, mRest, mRt, mRtN, mNx, mEx, mIte, mMut, mPut, mIt, bindT, bindTs, isAtom, isLst, isDK, plainAt, wipeE, backE, mFor, mLc, mDc, mWhile, mBk, mCt, mNo, mSl, mNoP, mPt, mJoin, mRng1, mRng2, mZip, mCallK, pickL, mMeth, mProp, mMake, mFld, fnI, fnIR, mDisp, mPairs, o2I, gtI, geI, leI, mStar, mStarT, mStarL, mAugI, mIndex, List.replicate]
  subst hF
  let P : Nat → S R → Prop := fun j s => ∃ (t : Rk) (a2 a3 : Option D), s = ⟨[some ⟨dW W, false⟩, some ⟨dT dN t, true⟩, c0 a2, c0 a3, none], r⟩ ∧ RkI W j [] t
  refine (mFor_ev (ds := rangeOf W.length 0) (s1 := ⟨[some ⟨dW W, false⟩, some ⟨.dct false [], true⟩, none, none, none], r⟩) (rng1 (i := (W.length : Int)) (by simp [fnM, fnR, ent, mSeq, mSet, mV, mC, mOp1, mOp2, mChain, mAnd, mOr, mNot, mIf, mArgs, escAll, esc, soft, pk, hard, put, puts, mHards, mPar, mTup, mLst, mDct0, mCall, mRest, mRt, mRtN, mNx, mEx, mIte, mMut, mPut, mIt, bindT, bindTs, isAtom, isLst, isDK, plainAt, wipeE, backE, mFor, mLc, mDc, mWhile, mBk, mCt, mNo, mSl, mNoP, mPt, mJoin, mRng1, mRng2, mZip, mCallK, pickL, mMeth, mProp, mMake, mFld, fnI, fnIR, mDisp, mPairs, o2I, gtI, geI, leI, mStar, mStarT, mStarL, mAugI, mIndex, len_dT]) rfl (by omega)) (rep_ev W.length 0 P (fun j s hj hs => ?_) _ ⟨[], none, none, rfl, rk0⟩)).mono ?_
  · obtain ⟨t, a2, a3, rfl, hk⟩ := hs
    generalize hF2 : mFor _ _ _ = F2
    simp [fnM, fnR, ent, mSeq, mSet, mV, mC, mOp1, mOp2, mChain, mAnd, mOr, mNot, mIf, mArgs, escAll, esc, soft, pk, hard, put, puts, mHards, mPar, mTup, mLst, mDct0, mCall, mRest, mRt, mRtN, mNx, mEx, mIte, mMut, mPut, mIt, bindT, bindTs, isAtom, isLst, isDK, plainAt, wipeE, backE, mFor, mLc, mDc, mWhile, mBk, mCt, mNo, mSl, mNoP, mPt, mJoin, mRng1, mRng2, mZip, mCallK, pickL, mMeth, mProp, mMake, mFld, fnI, fnIR, mDisp, mPairs, o2I, gtI, geI, leI, mStar, mStarT, mStarL, mAugI, mIndex]
    subst hF2
    let P2 : List Str → S R → Prop := fun pre s => ∃ (t : Rk) (a3 : Option D), s = ⟨[some ⟨dW W, false⟩, some ⟨dT dN t, true⟩, some ⟨.int j, false⟩, c0 a3, none], r⟩ ∧ RkI W j pre t
    refine (mFor_ev (ds := dS (kW W)) (s1 := ⟨[some ⟨dW W, false⟩, some ⟨dT dN t, true⟩, some ⟨.int j, false⟩, c0 a3, none], r⟩) (by simp [fnM, fnR, ent, mSeq, mSet, mV, mC, mOp1, mOp2, mChain, mAnd, mOr, mNot, mIf, mArgs, escAll, esc, soft, pk, hard, put, puts, mHards, mPar, mTup, mLst, mDct0, mCall, mRest, mRt, mRtN, mNx, mEx, mIte, mMut, mPut, mIt, bindT, bindTs, isAtom, isLst, isDK, plainAt, wipeE, backE, mFor, mLc, mDc, mWhile, mBk, mCt, mNo, mSl, mNoP, mPt, mJoin, mRng1, mRng2, mZip, mCallK, pickL, mMeth, mProp, mMake, mFld, fnI, fnIR, mDisp, mPairs, o2I, gtI, geI, leI, mStar, mStarT, mStarL, mAugI, mIndex, items_dT]; rfl) (each_ev D.str (kW W) P2 (fun pre x post s e1 hs => ?_) _ ⟨t, a3, rfl, hk⟩)).mono ?_
    · obtain ⟨t, a3, rfl, hk⟩ := hs
      have hx : x ∈ kW W := by rw [e1]; simp
      have htl := hk.len
      have hnn := next_nodes_ok (T := T) hx (by have := hW.two x; omega) r
      have hnl : (nx W x).length ≤ 2 := Nat.le_trans (nx_len W x) (hW.two x)
      generalize hL1 : mLc _ _ _ _ (mOp2 inD _ _) = L1
      generalize hL2 : mLc _ _ _ _ (mOp2 idxD _ _) = L2
      have eL1 : L1 ⟨[some ⟨dW W, false⟩, some ⟨dT dN t, true⟩, some ⟨.int j, false⟩, some ⟨.str x, false⟩, none], r⟩ = some (.tmp (.lst ((nx W x).map fun y => .bl (inK t y))), ⟨[some ⟨dW W, false⟩, some ⟨dT dN t, true⟩, some ⟨.int j, false⟩, some ⟨.str x, false⟩, none], r⟩) := by
        rw [← hL1]
        refine mLc_all D.str (fun y => .bl (inK t y)) (nx W x) ?_ (by rfl) (fun y hy => ?_) (by unfold sizeLine; omega)
        · simp [fnM, fnR, ent, mSeq, mSet, mV, mC, mOp1, mOp2, mChain, mAnd, mOr, mNot, mIf, mArgs, escAll, esc, soft, pk, hard, put, puts, mHards, mPar, mTup, mLst, mDct0, mCall, mRest, mRt, mRtN, mNx, mEx, mIte, mMut, mPut, mIt, bindT, bindTs, isAtom, isLst, isDK, plainAt, wipeE, backE, mFor, mLc, mDc, mWhile, mBk, mCt, mNo, mSl, mNoP, mPt, mJoin, mRng1, mRng2, mZip, mCallK, pickL, mMeth, mProp, mMake, mFld, fnI, fnIR, mDisp, mPairs, o2I, gtI, geI, leI, mStar, mStarT, mStarL, mAugI, mIndex, hnn, itemsOf, dS]
        · simp [fnM, fnR, ent, mSeq, mSet, mV, mC, mOp1, mOp2, mChain, mAnd, mOr, mNot, mIf, mArgs, escAll, esc, soft, pk, hard, put, puts, mHards, mPar, mTup, mLst, mDct0, mCall, mRest, mRt, mRtN, mNx, mEx, mIte, mMut, mPut, mIt, bindT, bindTs, isAtom, isLst, isDK, plainAt, wipeE, backE, mFor, mLc, mDc, mWhile, mBk, mCt, mNo, mSl, mNoP, mPt, mJoin, mRng1, mRng2, mZip, mCallK, pickL, mMeth, mProp, mMake, mFld, fnI, fnIR, mDisp, mPairs, o2I, gtI, geI, leI, mStar, mStarT, mStarL, mAugI, mIndex, inD, in_dT, inK]
      by_cases hxt : x ∈ t.map (·.1)
      · have hin := in_dT_true dN hxt
        have hP : P2 (pre ++ [x]) ⟨[some ⟨dW W, false⟩, some ⟨dT dN t, true⟩, some ⟨.int j, false⟩, some ⟨.str x, false⟩, none], r⟩ := ⟨t, some (.str x), rfl, hk.skip hx (.inl hxt)⟩
        generalize P2 (pre ++ [x]) = PP at hP
        simp [fnM, fnR, ent, mSeq, mSet, mV, mC, mOp1, mOp2, mChain, mAnd, mOr, mNot, mIf, mArgs, escAll, esc, soft, pk, hard, put, puts, mHards, mPar, mTup, mLst, mDct0, mCall, mRest, mRt, mRtN, mNx, mEx, mIte, mMut, mPut, mIt, bindT, bindTs, isAtom, isLst, isDK, plainAt, wipeE, backE, mFor, mLc, mDc, mWhile, mBk, mCt, mNo, mSl, mNoP, mPt, mJoin, mRng1, mRng2, mZip, mCallK, pickL, mMeth, mProp, mMake, mFld, fnI, fnIR, mDisp, mPairs, o2I, gtI, geI, leI, mStar, mStarT, mStarL, mAugI, mIndex, ninD, hin, hP]
      · have hin := in_dT_false dN hxt
        have hall := bl_all (nx W x) t
        by_cases ha : ∀ y ∈ nx W x, y ∈ t.map (·.1)
        · have ha' : ((nx W x).all fun y => inK t y) = true := by
            rw [List.all_eq_true]; exact fun y hy => decide_eq_true (ha y hy)
          have eL2 : L2 ⟨[some ⟨dW W, false⟩, some ⟨dT dN t, true⟩, some ⟨.int j, false⟩, some ⟨.str x, false⟩, none], r⟩ = some (.tmp (.lst ((nx W x).map fun y => dN (rkAt t y))), ⟨[some ⟨dW W, false⟩, some ⟨dT dN t, true⟩, some ⟨.int j, false⟩, some ⟨.str x, false⟩, none], r⟩) := by
            rw [← hL2]
            refine mLc_all D.str (fun y => dN (rkAt t y)) (nx W x) ?_ (by rfl) (fun y hy => ?_) (by unfold sizeLine; omega)
            · simp [fnM, fnR, ent, mSeq, mSet, mV, mC, mOp1, mOp2, mChain, mAnd, mOr, mNot, mIf, mArgs, escAll, esc, soft, pk, hard, put, puts, mHards, mPar, mTup, mLst, mDct0, mCall, mRest, mRt, mRtN, mNx, mEx, mIte, mMut, mPut, mIt, bindT, bindTs, isAtom, isLst, isDK, plainAt, wipeE, backE, mFor, mLc, mDc, mWhile, mBk, mCt, mNo, mSl, mNoP, mPt, mJoin, mRng1, mRng2, mZip, mCallK, pickL, mMeth, mProp, mMake, mFld, fnI, fnIR, mDisp, mPairs, o2I, gtI, geI, leI, mStar, mStarT, mStarL, mAugI, mIndex, hnn, itemsOf, dS]
            · simp [fnM, fnR, ent, mSeq, mSet, mV, mC, mOp1, mOp2, mChain, mAnd, mOr, mNot, mIf, mArgs, escAll, esc, soft, pk, hard, put, puts, mHards, mPar, mTup, mLst, mDct0, mCall, mRest, mRt, mRtN, mNx, mEx, mIte, mMut, mPut, mIt, bindT, bindTs, isAtom, isLst, isDK, plainAt, wipeE, backE, mFor, mLc, mDc, mWhile, mBk, mCt, mNo, mSl, mNoP, mPt, mJoin, mRng1, mRng2, mZip, mCallK, pickL, mMeth, mProp, mMake, mFld, fnI, fnIR, mDisp, mPairs, o2I, gtI, geI, leI, mStar, mStarT, mStarL, mAugI, mIndex, idx_dT dN (rk_look (ha y hy)), dN]
          have hP : P2 (pre ++ [x]) ⟨[some ⟨dW W, false⟩, some ⟨dT dN (t ++ [(x, mx ((nx W x).map (rkAt t)))]), true⟩, some ⟨.int j, false⟩, some ⟨.str x, false⟩, none], r⟩ := ⟨_, some (.str x), rfl, hk.put hx hxt ha⟩
          have hput := put_N (v := mx ((nx W x).map (rkAt t))) (by omega) hxt
          have hmax := max_neg ((nx W x).map (rkAt t))
          rw [List.map_map] at hmax
          have e1 : ((nx W x).map fun y => dN (rkAt t y)) = (nx W x).map (dN ∘ rkAt t) := rfl
          have hadd : addD (.lst [.int (-1)]) (.lst ((nx W x).map fun y => dN (rkAt t y))) = some (.tmp (.lst (.int (-1) :: (nx W x).map (dN ∘ rkAt t)))) := by
            have : 1 + (nx W x).length ≤ sizeLine := by unfold sizeLine; omega
            simp [addD, this, Function.comp_def]
          have hadd2 : addD (.int ((mx ((nx W x).map (rkAt t)) : Int) - 1)) (.int 1) = some (.sh (.int (mx ((nx W x).map (rkAt t)) : Int))) := by
            simp [addD]
          rw [ha'] at hall
          generalize P2 (pre ++ [x]) = PP at hP
          generalize mx ((nx W x).map (rkAt t)) = v at hP hput hmax hadd2
          simp [fnM, fnR, ent, mSeq, mSet, mV, mC, mOp1, mOp2, mChain, mAnd, mOr, mNot, mIf, mArgs, escAll, esc, soft, pk, hard, put, puts, mHards, mPar, mTup, mLst, mDct0, mCall, mRest, mRt, mRtN, mNx, mEx, mIte, mMut, mPut, mIt, bindT, bindTs, isAtom, isLst, isDK, plainAt, wipeE, backE, mFor, mLc, mDc, mWhile, mBk, mCt, mNo, mSl, mNoP, mPt, mJoin, mRng1, mRng2, mZip, mCallK, pickL, mMeth, mProp, mMake, mFld, fnI, fnIR, mDisp, mPairs, o2I, gtI, geI, leI, mStar, mStarT, mStarL, mAugI, mIndex, ninD, hin, eL1, hall, eL2, neg_one, hadd, hmax, hadd2, hput, hP]
        · have ha' : ((nx W x).all fun y => inK t y) = false := by
            rw [Bool.eq_false_iff]
            intro z
            rw [List.all_eq_true] at z
            exact ha fun y hy => of_decide_eq_true (z y hy)
          have hP : P2 (pre ++ [x]) ⟨[some ⟨dW W, false⟩, some ⟨dT dN t, true⟩, some ⟨.int j, false⟩, some ⟨.str x, false⟩, none], r⟩ := ⟨t, some (.str x), rfl, hk.skip hx (.inr (by
            simp only [Classical.not_forall] at ha
            obtain ⟨y, h1, h2⟩ := ha
            exact ⟨y, h1, h2⟩))⟩
          rw [ha'] at hall
          generalize P2 (pre ++ [x]) = PP at hP
          simp [fnM, fnR, ent, mSeq, mSet, mV, mC, mOp1, mOp2, mChain, mAnd, mOr, mNot, mIf, mArgs, escAll, esc, soft, pk, hard, put, puts, mHards, mPar, mTup, mLst, mDct0, mCall, mRest, mRt, mRtN, mNx, mEx, mIte, mMut, mPut, mIt, bindT, bindTs, isAtom, isLst, isDK, plainAt, wipeE, backE, mFor, mLc, mDc, mWhile, mBk, mCt, mNo, mSl, mNoP, mPt, mJoin, mRng1, mRng2, mZip, mCallK, pickL, mMeth, mProp, mMake, mFld, fnI, fnIR, mDisp, mPairs, o2I, gtI, geI, leI, mStar, mStarT, mStarL, mAugI, mIndex, ninD, hin, eL1, hall, hP]
    · rintro fl s' ⟨rfl, t, a3, rfl, hk⟩
      refine ⟨rfl, t, some (.int j), a3, rfl, hk.nd, hk.ok, fun x hx hw => hk.new x hx hw, fun x hx => by simp at hx⟩
  · rintro fl s' ⟨rfl, t, a2, a3, rfl, hk⟩
    have hfull := hk.full hW.nd
    have htl := hk.len
    have heq := eq_int' (t.length : Int) (W.length : Int)
    by_cases hf : t.length = W.length
    · have hall := hfull.mp hf
      have er : rkW W = some ((kW W).map fun x => (x, ht (nx W) W.length x)) := by unfold rkW; rw [if_pos hall]
      have hin : ∀ x ∈ kW W, x ∈ t.map (·.1) := fun x hx => hk.all x hx (by
        rw [List.all_eq_true] at hall
        simpa using hall x hx)
      have eC : C1 ⟨[some ⟨dW W, false⟩, some ⟨dT dN t, true⟩, c0 a2, c0 a3, none], r⟩ = some (.tmp (.dct false ((kW W).map fun x => (.str x, dN (ht (nx W) W.length x)))), ⟨[some ⟨dW W, false⟩, some ⟨dT dN t, true⟩, c0 a2, c0 a3, none], r⟩) := by
        rw [← hC]
        refine mDc_enc D.str (fun x => x) (fun x => dN (ht (nx W) W.length x)) (kW W) ?_ (by cases a3 <;> rfl) (fun x hx => ?_) (by unfold sizeLine; omega) (by simpa using hW.nd)
        · simp [fnM, fnR, ent, mSeq, mSet, mV, mC, mOp1, mOp2, mChain, mAnd, mOr, mNot, mIf, mArgs, escAll, esc, soft, pk, hard, put, puts, mHards, mPar, mTup, mLst, mDct0, mCall, mRest, mRt, mRtN, mNx, mEx, mIte, mMut, mPut, mIt, bindT, bindTs, isAtom, isLst, isDK, plainAt, wipeE, backE, mFor, mLc, mDc, mWhile, mBk, mCt, mNo, mSl, mNoP, mPt, mJoin, mRng1, mRng2, mZip, mCallK, pickL, mMeth, mProp, mMake, mFld, fnI, fnIR, mDisp, mPairs, o2I, gtI, geI, leI, mStar, mStarT, mStarL, mAugI, mIndex, items_dT]; rfl
        · have e1 := ends_ht nx_in hx (hk.at (hin x hx))
          rw [hkl] at e1
          rw [e1]
          cases a3 <;> simp [fnM, fnR, ent, mSeq, mSet, mV, mC, mOp1, mOp2, mChain, mAnd, mOr, mNot, mIf, mArgs, escAll, esc, soft, pk, hard, put, puts, mHards, mPar, mTup, mLst, mDct0, mCall, mRest, mRt, mRtN, mNx, mEx, mIte, mMut, mPut, mIt, bindT, bindTs, isAtom, isLst, isDK, plainAt, wipeE, backE, mFor, mLc, mDc, mWhile, mBk, mCt, mNo, mSl, mNoP, mPt, mJoin, mRng1, mRng2, mZip, mCallK, pickL, mMeth, mProp, mMake, mFld, fnI, fnIR, mDisp, mPairs, o2I, gtI, geI, leI, mStar, mStarT, mStarL, mAugI, mIndex, idx_dT dN (rk_look (hin x hx)), c0]
      rw [decide_eq_true (by omega)] at heq
      have e2 : vRk (rkW W) = .tmp (.dct false ((kW W).map fun x => (.str x, dN (ht (nx W) W.length x)))) := by
        rw [er]; simp [vRk, dT, Function.comp_def]
      rw [e2]
      generalize D.dct false ((kW W).map fun x => (.str x, dN (ht (nx W) W.length x))) = dd at eC
      simp [fnM, fnR, ent, mSeq, mSet, mV, mC, mOp1, mOp2, mChain, mAnd, mOr, mNot, mIf, mArgs, escAll, esc, soft, pk, hard, put, puts, mHards, mPar, mTup, mLst, mDct0, mCall, mRest, mRt, mRtN, mNx, mEx, mIte, mMut, mPut, mIt, bindT, bindTs, isAtom, isLst, isDK, plainAt, wipeE, backE, mFor, mLc, mDc, mWhile, mBk, mCt, mNo, mSl, mNoP, mPt, mJoin, mRng1, mRng2, mZip, mCallK, pickL, mMeth, mProp, mMake, mFld, fnI, fnIR, mDisp, mPairs, o2I, gtI, geI, leI, mStar, mStarT, mStarL, mAugI, mIndex, len_dT, heq, eC]
    · have er : rkW W = none := by unfold rkW; rw [if_neg (fun z => hf (hfull.mpr z))]
      rw [decide_eq_false (by omega)] at heq
      rw [er]
      simp [fnM, fnR, ent, mSeq, mSet, mV, mC, mOp1, mOp2, mChain, mAnd, mOr, mNot, mIf, mArgs, escAll, esc, soft, pk, hard, put, puts, mHards, mPar, mTup, mLst, mDct0, mCall, mRest, mRt, mRtN, mNx, mEx, mIte, mMut, mPut, mIt, bindT, bindTs, isAtom, isLst, isDK, plainAt, wipeE, backE, mFor, mLc, mDc, mWhile, mBk, mCt, mNo, mSl, mNoP, mPt, mJoin, mRng1, mRng2, mZip, mCallK, pickL, mMeth, mProp, mMake, mFld, fnI, fnIR, mDisp, mPairs, o2I, gtI, geI, leI, mStar, mStarT, mStarL, mAugI, mIndex, len_dT, heq, vRk]
end
end RW
namespace RW
open PySem L2 Gr
/-! ### depths -/
def goD (t : Tab) : Nat → Option Str → Nat → Option Str × Nat
  | 0, p, m => (p, m)
  | f + 1, none, m => (none, m)
  | f + 1, some x, m => if x ∈ t.map (·.1) then goD t f (look t x) (m + 1) else (some x, m)
def dpt (t : Tab) (g x : Str) : Option Nat := if (goD t (t.length + 1) (some x) 0).1 = some g then some (goD t (t.length + 1) (some x) 0).2 else none
def dNO : Option Nat → D
  | none => .non
  | some v => .int v
def depT (t : Tab) (g : Str) : List (Str × Option Nat) := t.map fun p => (p.1, dpt t g p.1)
section
variable {R : Type} {T : Fm R}
theorem put_NO {t : List (Str × Option Nat)} {k : Str} {v : Option Nat} (h : t.length < 1000) (hk : k ∉ t.map (·.1)) : putD (dT dNO t) (.str k) (dNO v) = some (dT dNO (t ++ [(k, v)])) := by
  have := putD_dT dNO t k v (by unfold sizeLine; omega)
  rw [putT_new hk] at this
  exact this
theorem depths_by_ok {t : Tab} (hn : (t.map (·.1)).Nodup) (hl : t.length ≤ 6) (g : Str) (r : R) : f_depths_by T [dT dO t, .str g] r = some (.tmp (dT dNO (depT t g)), r) := by
  suffices h : Ev (f_depths_by T [dT dO t, .str g] r) (fun v r' => v = .tmp (dT dNO (depT t g)) ∧ r' = r) by
    obtain ⟨v, r', e, rfl, rfl⟩ := h
    exact e
  unfold f_depths_by m_depths_by
  generalize hF : mFor _ _ _ = F1
  simp [fnM, fnR, ent, mSeq, mSet, mV, mC, mOp1, mOp2, mChain, mAnd, mOr, mNot, mIf, mArgs, escAll, esc, soft, pk, hard, put, puts, mHards, mPar, mTup, mLst, mDct0, mCall, mRest, mRt, mRtN, mNx, mEx, mIte, mMut, mPut, mIt, bindT, bindTs, isAtom, isLst, isDK, plainAt, wipeE, backE, mFor, mLc, mDc, mWhile, mBk, mCt, mNo, mSl, mNoP, mPt, mJoin, mRng1, mRng2, mZip, mCallK, pickL, mMeth, mProp, mMake, mFld, fnI, fnIR, mDisp, mPairs, o2I, gtI, geI, leI, mStar, mStarT, mStarL, mAugI, mIndex, List.replicate]
  subst hF
  let P : List (Str × Option Str) → S R → Prop := fun pre s => ∃ (a3 a4 a5 : Option Cell), s = ⟨[some ⟨dT dO t, false⟩, some ⟨.str g, false⟩, some ⟨dT dNO (pre.map fun p => (p.1, dpt t g p.1)), true⟩, a3, a4, a5], r⟩
  refine (mFor_ev (ds := t.map fun p => D.str p.1) (s1 := ⟨[some ⟨dT dO t, false⟩, some ⟨.str g, false⟩, some ⟨.dct false [], true⟩, none, none, none], r⟩) (by simp [fnM, fnR, ent, mSeq, mSet, mV, mC, mOp1, mOp2, mChain, mAnd, mOr, mNot, mIf, mArgs, escAll, esc, soft, pk, hard, put, puts, mHards, mPar, mTup, mLst, mDct0, mCall, mRest, mRt, mRtN, mNx, mEx, mIte, mMut, mPut, mIt, bindT, bindTs, isAtom, isLst, isDK, plainAt, wipeE, backE, mFor, mLc, mDc, mWhile, mBk, mCt, mNo, mSl, mNoP, mPt, mJoin, mRng1, mRng2, mZip, mCallK, pickL, mMeth, mProp, mMake, mFld, fnI, fnIR, mDisp, mPairs, o2I, gtI, geI, leI, mStar, mStarT, mStarL, mAugI, mIndex, items_dT, dS]) (each_ev (fun p : Str × Option Str => D.str p.1) t P (fun pre p post s e1 hs => ?_) _ ⟨none, none, none, rfl⟩)).mono ?_
  · obtain ⟨a3, a4, a5, rfl⟩ := hs
    generalize hWh : mWhile _ _ = Wh
    simp [fnM, fnR, ent, mSeq, mSet, mV, mC, mOp1, mOp2, mChain, mAnd, mOr, mNot, mIf, mArgs, escAll, esc, soft, pk, hard, put, puts, mHards, mPar, mTup, mLst, mDct0, mCall, mRest, mRt, mRtN, mNx, mEx, mIte, mMut, mPut, mIt, bindT, bindTs, isAtom, isLst, isDK, plainAt, wipeE, backE, mFor, mLc, mDc, mWhile, mBk, mCt, mNo, mSl, mNoP, mPt, mJoin, mRng1, mRng2, mZip, mCallK, pickL, mMeth, mProp, mMake, mFld, fnI, fnIR, mDisp, mPairs, o2I, gtI, geI, leI, mStar, mStarT, mStarL, mAugI, mIndex]
    subst hWh
    let x := p.1
    let I : Nat → S R → Prop := fun k s => ∃ (q : Option Str) (m : Nat), s = ⟨[some ⟨dT dO t, false⟩, some ⟨.str g, false⟩, some ⟨dT dNO (pre.map fun p => (p.1, dpt t g p.1)), true⟩, some ⟨.str p.1, false⟩, some ⟨dO q, false⟩, some ⟨.int m, false⟩], r⟩ ∧ k = t.length + 1 - m ∧ m ≤ t.length + 1 ∧ goD t (t.length + 1 - m) q m = goD t (t.length + 1) (some p.1) 0
    let Q : Fl → S R → Prop := fun fl s => fl = .nx ∧ s = ⟨[some ⟨dT dO t, false⟩, some ⟨.str g, false⟩, some ⟨dT dNO (pre.map fun p => (p.1, dpt t g p.1)), true⟩, some ⟨.str p.1, false⟩, some ⟨dO (goD t (t.length + 1) (some p.1) 0).1, false⟩, some ⟨.int (goD t (t.length + 1) (some p.1) 0).2, false⟩], r⟩
    refine Ev.mono (Q := Q) (wh_ev I Q (fun k s hs => ?_) wfuel (t.length + 1) _ (lt_wfuel (by omega)) ⟨some p.1, 0, rfl, rfl, by omega, rfl⟩) ?_
    · obtain ⟨q, m, rfl, rfl, hm, hgo⟩ := hs
      have hin := in_dTO dO q t
      have hll := len_dT dO t
      have hQ : (goD t (t.length + 1 - m) q m = (q, m)) → Q .nx ⟨[some ⟨dT dO t, false⟩, some ⟨.str g, false⟩, some ⟨dT dNO (pre.map fun p => (p.1, dpt t g p.1)), true⟩, some ⟨.str p.1, false⟩, some ⟨dO q, false⟩, some ⟨.int m, false⟩], r⟩ := by
        intro z
        rw [z] at hgo
        refine ⟨rfl, ?_⟩
        rw [← hgo]
      by_cases hin2 : ∃ y, q = some y ∧ y ∈ t.map (·.1)
      · obtain ⟨y, rfl, hy⟩ := hin2
        have hin : inB (dO (some y)) (dT dO t) = some true := by rw [hin]; simp only; rw [decide_eq_true hy]
        have hlk := look_dT hy
        rcases Nat.lt_or_ge t.length m with c | c
        · have hm2 : t.length + 1 - m = 0 := by omega
          have hQ := hQ (by rw [hm2]; rfl)
          have hle : leI (.int (m : Int)) (.int (t.length : Int)) = some (.sh (.bl false)) := by
            show some (Vr.sh (.bl (decide ((m : Int) ≤ (t.length : Int))))) = _
            rw [decide_eq_false (by omega)]
          clear_value Q I
          generalize dT dO t = dd at *
          generalize dT dNO (pre.map fun p => (p.1, dpt t g p.1)) = d2 at *
          simp only [dO] at hin hQ
          generalize leI = LE at hle ⊢
          simp [fnM, fnR, ent, mSeq, mSet, mV, mC, mOp1, mOp2, mChain, mAnd, mOr, mNot, mIf, mArgs, escAll, esc, soft, pk, hard, put, puts, mHards, mPar, mTup, mLst, mDct0, mCall, mRest, mRt, mRtN, mNx, mEx, mIte, mMut, mPut, mIt, bindT, bindTs, isAtom, isLst, isDK, plainAt, wipeE, backE, mFor, mLc, mDc, mWhile, mBk, mCt, mNo, mSl, mNoP, mPt, mJoin, mRng1, mRng2, mZip, mCallK, pickL, mMeth, mProp, mMake, mFld, fnI, fnIR, mDisp, mPairs, o2I, gtI, geI, leI, mStar, mStarT, mStarL, mAugI, mIndex, dO, inD, hin, hll, hle]
          exact hQ
        · have hI : ∃ k, k < t.length + 1 - m ∧ I k ⟨[some ⟨dT dO t, false⟩, some ⟨.str g, false⟩, some ⟨dT dNO (pre.map fun p => (p.1, dpt t g p.1)), true⟩, some ⟨.str p.1, false⟩, some ⟨dO (look t y), false⟩, some ⟨.int ((m : Int) + 1), false⟩], r⟩ := by
            refine ⟨t.length + 1 - (m + 1), by omega, look t y, m + 1, rfl, rfl, by omega, ?_⟩
            rw [← hgo]
            have : t.length + 1 - m = (t.length + 1 - (m + 1)) + 1 := by omega
            rw [this, goD, if_pos hy]
          have hle : leI (.int (m : Int)) (.int (t.length : Int)) = some (.sh (.bl true)) := by
            show some (Vr.sh (.bl (decide ((m : Int) ≤ (t.length : Int))))) = _
            rw [decide_eq_true (by omega)]
          have hadd : addD (.int (m : Int)) (.int 1) = some (.sh (.int ((m : Int) + 1))) := rfl
          have hat := dO_atom (look t y)
          clear_value Q I
          generalize dT dO t = dd at *
          generalize dT dNO (pre.map fun p => (p.1, dpt t g p.1)) = d2 at *
          simp only [dO] at hin
          generalize leI = LE at hle ⊢
          generalize hly : look t y = ly at *
          cases ly <;> (simp only [dO] at hlk hI; simp [fnM, fnR, ent, mSeq, mSet, mV, mC, mOp1, mOp2, mChain, mAnd, mOr, mNot, mIf, mArgs, escAll, esc, soft, pk, hard, put, puts, mHards, mPar, mTup, mLst, mDct0, mCall, mRest, mRt, mRtN, mNx, mEx, mIte, mMut, mPut, mIt, bindT, bindTs, isAtom, isLst, isDK, plainAt, wipeE, backE, mFor, mLc, mDc, mWhile, mBk, mCt, mNo, mSl, mNoP, mPt, mJoin, mRng1, mRng2, mZip, mCallK, pickL, mMeth, mProp, mMake, mFld, fnI, fnIR, mDisp, mPairs, o2I, gtI, geI, leI, mStar, mStarT, mStarL, mAugI, mIndex, dO, inD, hin, hll, hle, hlk, hadd, hI])
      · have hQ := hQ (by
          cases hf : t.length + 1 - m with
          | zero => rfl
          | succ f =>
            cases q with
            | none => rfl
            | some y => rw [goD, if_neg (fun z => hin2 ⟨y, rfl, z⟩)])
        have hin : inB (dO q) (dT dO t) = some false := by
          rw [hin]
          cases q with
          | none => rfl
          | some y => simp only; rw [decide_eq_false (fun z => hin2 ⟨y, rfl, z⟩)]
        clear_value Q I
        generalize dT dO t = dd at *
        generalize dT dNO (pre.map fun p => (p.1, dpt t g p.1)) = d2 at *
        generalize dO q = dq at *
        simp [fnM, fnR, ent, mSeq, mSet, mV, mC, mOp1, mOp2, mChain, mAnd, mOr, mNot, mIf, mArgs, escAll, esc, soft, pk, hard, put, puts, mHards, mPar, mTup, mLst, mDct0, mCall, mRest, mRt, mRtN, mNx, mEx, mIte, mMut, mPut, mIt, bindT, bindTs, isAtom, isLst, isDK, plainAt, wipeE, backE, mFor, mLc, mDc, mWhile, mBk, mCt, mNo, mSl, mNoP, mPt, mJoin, mRng1, mRng2, mZip, mCallK, pickL, mMeth, mProp, mMake, mFld, fnI, fnIR, mDisp, mPairs, o2I, gtI, geI, leI, mStar, mStarT, mStarL, mAugI, mIndex, inD, hin, hQ]
    · rintro fl s' ⟨rfl, rfl⟩
      have hx : p.1 ∉ (pre.map fun p => (p.1, dpt t g p.1)).map (·.1) := by
        rw [List.map_map]
        rw [e1, List.map_append, List.map_cons] at hn
        exact fun z => (List.nodup_append.mp hn).2.2 p.1 z p.1 List.mem_cons_self rfl
      have hpl : (pre.map fun p => (p.1, dpt t g p.1)).length < 1000 := by
        have := congrArg List.length e1
        simp at this
        rw [List.length_map]; omega
      have hput := put_NO (v := dpt t g p.1) hpl hx
      have hP : P (pre ++ [p]) ⟨[some ⟨dT dO t, false⟩, some ⟨.str g, false⟩, some ⟨dT dNO (pre.map (fun p => (p.1, dpt t g p.1)) ++ [(p.1, dpt t g p.1)]), true⟩, some ⟨.str p.1, false⟩, some ⟨dO (goD t (t.length + 1) (some p.1) 0).1, false⟩, some ⟨.int (goD t (t.length + 1) (some p.1) 0).2, false⟩], r⟩ := ⟨_, _, _, by rw [List.map_append]; rfl⟩
      have heq := eq_dO (goD t (t.length + 1) (some p.1) 0).1 (some g)
      have heq : eqD (dO (goD t (t.length + 1) (some p.1) 0).1) (.str g) = some (.sh (.bl (decide ((goD t (t.length + 1) (some p.1) 0).1 = some g)))) := heq
      have hdp : dpt t g p.1 = if (goD t (t.length + 1) (some p.1) 0).1 = some g then some (goD t (t.length + 1) (some p.1) 0).2 else none := rfl
      generalize dpt t g p.1 = v at *
      generalize goD t (t.length + 1) (some p.1) 0 = gd at *
      generalize P (pre ++ [p]) = PP at *
      generalize dT dNO (pre.map fun p => (p.1, dpt t g p.1)) = d2 at *
      generalize dT dNO (pre.map (fun p => (p.1, dpt t g p.1)) ++ [(p.1, v)]) = d3 at *
      generalize dT dO t = dd at *
      by_cases hc : gd.1 = some g
      · rw [if_pos hc] at hdp
        subst hdp
        simp only [dNO] at hput
        rw [hc] at hP heq ⊢
        rw [decide_eq_true rfl] at heq
        simp only [dO] at hP heq
        simp [fnM, fnR, ent, mSeq, mSet, mV, mC, mOp1, mOp2, mChain, mAnd, mOr, mNot, mIf, mArgs, escAll, esc, soft, pk, hard, put, puts, mHards, mPar, mTup, mLst, mDct0, mCall, mRest, mRt, mRtN, mNx, mEx, mIte, mMut, mPut, mIt, bindT, bindTs, isAtom, isLst, isDK, plainAt, wipeE, backE, mFor, mLc, mDc, mWhile, mBk, mCt, mNo, mSl, mNoP, mPt, mJoin, mRng1, mRng2, mZip, mCallK, pickL, mMeth, mProp, mMake, mFld, fnI, fnIR, mDisp, mPairs, o2I, gtI, geI, leI, mStar, mStarT, mStarL, mAugI, mIndex, dO, heq, hput, hP]
      · rw [if_neg hc] at hdp
        subst hdp
        simp only [dNO] at hput
        rw [decide_eq_false hc] at heq
        generalize dO gd.1 = dg at *
        simp [fnM, fnR, ent, mSeq, mSet, mV, mC, mOp1, mOp2, mChain, mAnd, mOr, mNot, mIf, mArgs, escAll, esc, soft, pk, hard, put, puts, mHards, mPar, mTup, mLst, mDct0, mCall, mRest, mRt, mRtN, mNx, mEx, mIte, mMut, mPut, mIt, bindT, bindTs, isAtom, isLst, isDK, plainAt, wipeE, backE, mFor, mLc, mDc, mWhile, mBk, mCt, mNo, mSl, mNoP, mPt, mJoin, mRng1, mRng2, mZip, mCallK, pickL, mMeth, mProp, mMake, mFld, fnI, fnIR, mDisp, mPairs, o2I, gtI, geI, leI, mStar, mStarT, mStarL, mAugI, mIndex, heq, hput, hP]
  · rintro fl s' ⟨rfl, a3, a4, a5, rfl⟩
    simp [fnM, fnR, ent, mSeq, mSet, mV, mC, mOp1, mOp2, mChain, mAnd, mOr, mNot, mIf, mArgs, escAll, esc, soft, pk, hard, put, puts, mHards, mPar, mTup, mLst, mDct0, mCall, mRest, mRt, mRtN, mNx, mEx, mIte, mMut, mPut, mIt, bindT, bindTs, isAtom, isLst, isDK, plainAt, wipeE, backE, mFor, mLc, mDc, mWhile, mBk, mCt, mNo, mSl, mNoP, mPt, mJoin, mRng1, mRng2, mZip, mCallK, pickL, mMeth, mProp, mMake, mFld, fnI, fnIR, mDisp, mPairs, o2I, gtI, geI, leI, mStar, mStarT, mStarL, mAugI, mIndex, depT]
end
end RW
namespace RW
open PySem L2
/-! ### data that can be shown -/
structure FitP (p : PyData) (n k : Nat) : Prop where
  sh : p.showable = true
  lf : p.leavesShort 13 = true
  wt : p.weight ≤ n
  dp : p.depth ≤ k
def Fit (d : D) (n k : Nat) : Prop := ∃ p, toPy d = some p ∧ FitP p n k
theorem Fit.mono {d : D} {n n' k k' : Nat} (h : Fit d n k) (h1 : n ≤ n') (h2 : k ≤ k') : Fit d n' k' :=
  let ⟨p, e, f⟩ := h
  ⟨p, e, f.sh, f.lf, Nat.le_trans f.wt h1, Nat.le_trans f.dp h2⟩
/-! ### equal data -/
theorem deq_dO' (n : Nat) (x y : Option Str) : deqF (n + 1) (dO x) (dO y) = some (decide (x = y)) := by
  cases x <;> cases y <;> simp [deqF, dO, toV, eqV, str_beq]
theorem deqL_dO (n : Nat) : ∀ (q q' : List (Option Str)), q.length = q'.length → deqL (deqF (n + 1)) (q.map dO) (q'.map dO) = some (decide (q = q'))
  | [], [], _ => by simp [deqL]
  | [], _ :: _, h => by simp at h
  | _ :: _, [], h => by simp at h
  | x :: q, y :: q', h => by
    have ih := deqL_dO n q q' (by simpa using h)
    rw [List.map_cons, List.map_cons, deqL, deq_dO']
    by_cases e : x = y
    · simp [e, ih]
    · simp [e, ih]
end RW
namespace RW
open PySem L2 Gr
theorem ordT_keys (dots : List Str) (t : Tab) : (ordT dots t).map (·.1) = dots := by
  unfold ordT
  rw [List.map_map]
  exact List.map_id' _
theorem ord_look {dots : List Str} {t : Tab} {x : Str} (hx : x ∈ dots) : look (ordT dots t) x = look t x := by
  show ((ordT dots t).lookup x).getD none = _
  rw [ordT_look hx]; rfl
section
variable {R : Type} {T : Fm R}
theorem depths_ok {M : Mod} (hM : ModOk M) {e : Str} {p : Tab × Tab} (hp : (e, p) ∈ M.rows) (b : Bool) (r : R) : f_depths T [netD M, .str e, .bl b] r = some (.tmp (dT dNO (depT (ordT M.dots (if b = true then p.2 else p.1)) e)), r) := by
  have d2 := hM.d2
  have q1 := need_net_ok (T := T) M r
  have q4 := need_goal_ok (T := T) (M := M) (x := e) (List.mem_map.mpr ⟨_, hp, rfl⟩) r
  have hi : idxD (dT dP (ordR M)) (.str e) = some (.sh (.tup [dT dO (ordT M.dots p.1), dT dO (ordT M.dots p.2)])) := idx_dT dP (ordR_look hM hp)
  have q5 := fun t => depths_by_ok (T := T) (t := ordT M.dots t) (by rw [ordT_keys]; exact hM.dn) (by unfold ordT; rw [List.length_map]; omega) e r
  unfold f_depths m_depths
  cases b
  · have q5 := q5 p.1
    simp [fnM, fnR, ent, mSeq, mSet, mV, mC, mOp1, mOp2, mChain, mAnd, mOr, mNot, mIf, mArgs, escAll, esc, soft, pk, hard, put, puts, mHards, mPar, mTup, mLst, mDct0, mCall, mRest, mRt, mRtN, mNx, mEx, mIte, mMut, mPut, mIt, bindT, bindTs, isAtom, isLst, isDK, plainAt, wipeE, backE, mFor, mLc, mDc, mWhile, mBk, mCt, mNo, mSl, mNoP, mPt, mJoin, mRng1, mRng2, mZip, mCallK, pickL, mMeth, mProp, mMake, mFld, fnI, fnIR, mDisp, mPairs, o2I, gtI, geI, leI, mStar, mStarT, mStarL, mAugI, mIndex, List.replicate, q1, q4, fld1, hi, idx_tup2_0, q5]
  · have q5 := q5 p.2
    simp [fnM, fnR, ent, mSeq, mSet, mV, mC, mOp1, mOp2, mChain, mAnd, mOr, mNot, mIf, mArgs, escAll, esc, soft, pk, hard, put, puts, mHards, mPar, mTup, mLst, mDct0, mCall, mRest, mRt, mRtN, mNx, mEx, mIte, mMut, mPut, mIt, bindT, bindTs, isAtom, isLst, isDK, plainAt, wipeE, backE, mFor, mLc, mDc, mWhile, mBk, mCt, mNo, mSl, mNoP, mPt, mJoin, mRng1, mRng2, mZip, mCallK, pickL, mMeth, mProp, mMake, mFld, fnI, fnIR, mDisp, mPairs, o2I, gtI, geI, leI, mStar, mStarT, mStarL, mAugI, mIndex, List.replicate, q1, q4, fld1, hi, idx_tup2_1, q5]
end
end RW
namespace RW
open PySem L2 Gr
/-! ### the mixture of a round -/
def spW (p : Tab × Tab) (ready part : List Str) (x : Str) : List (Option Str) :=
  if x ∈ ready then [look p.2 x] else if x ∈ part ∧ look p.2 x ≠ look p.1 x then [look p.1 x, look p.2 x] else [look p.1 x]
def webOf (dots : List Str) (p : Tab × Tab) (ready part : List Str) : Web := dots.map fun x => (x, spW p ready part x)
theorem kW_web (dots : List Str) (p : Tab × Tab) (ready part : List Str) : kW (webOf dots p ready part) = dots := by
  unfold kW webOf
  rw [List.map_map]
  exact List.map_id' _
theorem look_map {α : Type} {f : Str → α} : ∀ {dots : List Str} {x : Str}, x ∈ dots → (dots.map fun x => (x, f x)).lookup x = some (f x)
  | y :: ys, x, h => by
    rw [List.map_cons, List.lookup_cons]
    by_cases e : x = y
    · subst e; simp
    · rw [beq_eq_false_iff_ne.mpr e]
      exact look_map ((List.mem_cons.mp h).resolve_left e)
theorem look_none {α : Type} {f : Str → α} : ∀ {dots : List Str} {x : Str}, x ∉ dots → (dots.map fun x => (x, f x)).lookup x = none
  | [], _, _ => rfl
  | y :: ys, x, h => by
    rw [List.map_cons, List.lookup_cons]
    rw [beq_eq_false_iff_ne.mpr fun e => h (by rw [e]; exact List.mem_cons_self)]
    exact look_none fun z => h (List.mem_cons_of_mem _ z)
theorem plW_web {dots : List Str} {p : Tab × Tab} {ready part : List Str} {x : Str} (h : x ∈ dots) : plW (webOf dots p ready part) x = spW p ready part x := by
  unfold plW webOf
  rw [look_map h]; rfl
theorem plW_none {dots : List Str} {p : Tab × Tab} {ready part : List Str} {x : Str} (h : x ∉ dots) : plW (webOf dots p ready part) x = [] := by
  unfold plW webOf
  rw [look_none h]; rfl
theorem spW_two (p : Tab × Tab) (ready part : List Str) (x : Str) : (spW p ready part x).length ≤ 2 := by
  unfold spW; split
  · simp
  · split <;> simp
theorem webOk {M : Mod} (hM : ModOk M) {e : Str} {p : Tab × Tab} (hp : (e, p) ∈ M.rows) (ready part : List Str) : WebOk (webOf M.dots p ready part) M.dots.length := by
  obtain ⟨ht1, ht2⟩ := hM.tab _ hp
  have hne : ∀ x ∈ M.dots, ∀ t : Tab, TabOk M.dots e t → look t x ≠ some x := fun x hx t ht h => by
    have he := hM.rdot _ hp
    rcases (tab_look ht hx).2 with z | z | ⟨y, z, _, hn⟩
    · rw [h] at z; cases z
    · rw [h] at z; cases z; exact he hx
    · rw [h] at z; cases z; exact hn rfl
  refine ⟨by rw [kW_web]; exact hM.dn, by simp [webOf], fun n => ?_, fun n => ?_, fun n => ?_⟩
  · by_cases hn : n ∈ M.dots
    · rw [plW_web hn]; exact spW_two _ _ _ _
    · rw [plW_none hn]; simp
  · by_cases hn : n ∈ M.dots
    · rw [plW_web hn]; unfold spW; split
      · simp
      · split
        · rename_i h; simp; exact fun z => h.2 z.symm
        · simp
    · rw [plW_none hn]; simp
  · by_cases hn : n ∈ M.dots
    · rw [plW_web hn]; unfold spW
      have h1 := hne n hn p.1 ht1
      have h2 := hne n hn p.2 ht2
      split
      · simp; exact fun z => h2 z.symm
      · split
        · simp; exact ⟨fun z => h1 z.symm, fun z => h2 z.symm⟩
        · simp; exact fun z => h1 z.symm
    · rw [plW_none hn]; simp
theorem web_snoc (pre : List Str) (x : Str) (p : Tab × Tab) (ready part : List Str) : webOf (pre ++ [x]) p ready part = webOf pre p ready part ++ [(x, spW p ready part x)] := by simp [webOf]
section
variable {R : Type} {T : Fm R}
theorem put_W {t : Web} {k : Str} {ps : List (Option Str)} (h : t.length < 1000) (hk : k ∉ kW t) : putD (dW t) (.str k) (.lst (lO ps)) = some (dW (t ++ [(k, ps)])) := by
  have := putD_dT dPl t k ps (by unfold sizeLine; omega)
  rw [putT_new hk] at this
  exact this
theorem mixture_ok {M : Mod} (hM : ModOk M) {e : Str} {p : Tab × Tab} (hp : (e, p) ∈ M.rows) (ready part : List Str) (r : R) : f_mixture T [netD M, .tup (dS ready), .tup (dS part), .str e] r = some (.tmp (dW (webOf M.dots p ready part)), r) := by
  suffices h : Ev (f_mixture T [netD M, .tup (dS ready), .tup (dS part), .str e] r) (fun v r' => v = .tmp (dW (webOf M.dots p ready part)) ∧ r' = r) by
    obtain ⟨v, r', e, rfl, rfl⟩ := h
    exact e
  have d2 := hM.d2
  have hi : idxD (dT dP (ordR M)) (.str e) = some (.sh (.tup [dT dO (ordT M.dots p.1), dT dO (ordT M.dots p.2)])) := idx_dT dP (ordR_look hM hp)
  unfold f_mixture m_mixture
  generalize hF : mFor _ _ _ = F1
  generalize hU : mUnp _ _ = U
  have eU : U ⟨[some ⟨netD M, false⟩, some ⟨.tup (dS ready), false⟩, some ⟨.tup (dS part), false⟩, some ⟨.str e, false⟩, none, none, none, none], r⟩ = some (.nx, ⟨[some ⟨netD M, false⟩, some ⟨.tup (dS ready), false⟩, some ⟨.tup (dS part), false⟩, some ⟨.str e, false⟩, some ⟨dT dO (ordT M.dots p.1), false⟩, some ⟨dT dO (ordT M.dots p.2), false⟩, none, none], r⟩) := by
    rw [← hU]
    refine mUnp_ok (v := .sh (.tup [dT dO (ordT M.dots p.1), dT dO (ordT M.dots p.2)])) (s1 := ⟨[some ⟨netD M, false⟩, some ⟨.tup (dS ready), false⟩, some ⟨.tup (dS part), false⟩, some ⟨.str e, false⟩, none, none, none, none], r⟩) ?_ rfl rfl
    simp [fnM, fnR, ent, mSeq, mSet, mV, mC, mOp1, mOp2, mChain, mAnd, mOr, mNot, mIf, mArgs, escAll, esc, soft, pk, hard, put, puts, mHards, mPar, mTup, mLst, mDct0, mCall, mRest, mRt, mRtN, mNx, mEx, mIte, mMut, mPut, mIt, bindT, bindTs, isAtom, isLst, isDK, plainAt, wipeE, backE, mFor, mLc, mDc, mWhile, mBk, mCt, mNo, mSl, mNoP, mPt, mJoin, mRng1, mRng2, mZip, mCallK, pickL, mMeth, mProp, mMake, mFld, fnI, fnIR, mDisp, mPairs, o2I, gtI, geI, leI, mStar, mStarT, mStarL, mAugI, mIndex, fld1, hi]
  simp [fnM, fnR, ent, mSeq, mSet, mV, mC, mOp1, mOp2, mChain, mAnd, mOr, mNot, mIf, mArgs, escAll, esc, soft, pk, hard, put, puts, mHards, mPar, mTup, mLst, mDct0, mCall, mRest, mRt, mRtN, mNx, mEx, mIte, mMut, mPut, mIt, bindT, bindTs, isAtom, isLst, isDK, plainAt, wipeE, backE, mFor, mLc, mDc, mWhile, mBk, mCt, mNo, mSl, mNoP, mPt, mJoin, mRng1, mRng2, mZip, mCallK, pickL, mMeth, mProp, mMake, mFld, fnI, fnIR, mDisp, mPairs, o2I, gtI, geI, leI, mStar, mStarT, mStarL, mAugI, mIndex, List.replicate, eU]
  subst hF
  let P : List Str → S R → Prop := fun pre s => ∃ a7 : Option Cell, s = ⟨[some ⟨netD M, false⟩, some ⟨.tup (dS ready), false⟩, some ⟨.tup (dS part), false⟩, some ⟨.str e, false⟩, some ⟨dT dO (ordT M.dots p.1), false⟩, some ⟨dT dO (ordT M.dots p.2), false⟩, some ⟨dW (webOf pre p ready part), true⟩, a7], r⟩
  refine (mFor_ev (ds := dS M.dots) (s1 := ⟨[some ⟨netD M, false⟩, some ⟨.tup (dS ready), false⟩, some ⟨.tup (dS part), false⟩, some ⟨.str e, false⟩, some ⟨dT dO (ordT M.dots p.1), false⟩, some ⟨dT dO (ordT M.dots p.2), false⟩, some ⟨.dct false [], true⟩, none], r⟩) (by simp [fnM, fnR, ent, mSeq, mSet, mV, mC, mOp1, mOp2, mChain, mAnd, mOr, mNot, mIf, mArgs, escAll, esc, soft, pk, hard, put, puts, mHards, mPar, mTup, mLst, mDct0, mCall, mRest, mRt, mRtN, mNx, mEx, mIte, mMut, mPut, mIt, bindT, bindTs, isAtom, isLst, isDK, plainAt, wipeE, backE, mFor, mLc, mDc, mWhile, mBk, mCt, mNo, mSl, mNoP, mPt, mJoin, mRng1, mRng2, mZip, mCallK, pickL, mMeth, mProp, mMake, mFld, fnI, fnIR, mDisp, mPairs, o2I, gtI, geI, leI, mStar, mStarT, mStarL, mAugI, mIndex, fld3, itemsOf]) (each_ev D.str M.dots P (fun pre x post s e1 hs => ?_) _ ⟨none, rfl⟩)).mono ?_
  · obtain ⟨a7, rfl⟩ := hs
    have hx : x ∈ M.dots := by rw [e1]; simp
    have hxn : x ∉ pre := by
      have := hM.dn
      rw [e1] at this
      have := (List.nodup_append.mp this).2.2
      exact fun z => this x z x List.mem_cons_self rfl
    have hl : (webOf pre p ready part).length < 1000 := by
      have := congrArg List.length e1
      simp at this
      simp [webOf]; omega
    have hk : x ∉ kW (webOf pre p ready part) := by rw [kW_web]; exact hxn
    have hP : P (pre ++ [x]) ⟨[some ⟨netD M, false⟩, some ⟨.tup (dS ready), false⟩, some ⟨.tup (dS part), false⟩, some ⟨.str e, false⟩, some ⟨dT dO (ordT M.dots p.1), false⟩, some ⟨dT dO (ordT M.dots p.2), false⟩, some ⟨dW (webOf pre p ready part ++ [(x, spW p ready part x)]), true⟩, some ⟨.str x, false⟩], r⟩ := ⟨some ⟨.str x, false⟩, by rw [web_snoc]⟩
    have o1 := idx_dT dO (ordT_look (t := p.1) hx)
    have o2 := idx_dT dO (ordT_look (t := p.2) hx)
    have pw := fun ps => put_W (ps := ps) hl hk
    generalize P (pre ++ [x]) = PP at hP
    generalize webOf pre p ready part = WW at hP pw
    by_cases h1 : x ∈ ready
    · have es : spW p ready part x = [look p.2 x] := by unfold spW; rw [if_pos h1]
      have pw := pw [look p.2 x]
      rw [es] at hP
      simp only [lO, List.map_cons, List.map_nil] at pw
      simp [fnM, fnR, ent, mSeq, mSet, mV, mC, mOp1, mOp2, mChain, mAnd, mOr, mNot, mIf, mArgs, escAll, esc, soft, pk, hard, put, puts, mHards, mPar, mTup, mLst, mDct0, mCall, mRest, mRt, mRtN, mNx, mEx, mIte, mMut, mPut, mIt, bindT, bindTs, isAtom, isLst, isDK, plainAt, wipeE, backE, mFor, mLc, mDc, mWhile, mBk, mCt, mNo, mSl, mNoP, mPt, mJoin, mRng1, mRng2, mZip, mCallK, pickL, mMeth, mProp, mMake, mFld, fnI, fnIR, mDisp, mPairs, o2I, gtI, geI, leI, mStar, mStarT, mStarL, mAugI, mIndex, inD, in_tup, h1, o2, pw, hP]
    · by_cases h2 : x ∈ part
      · by_cases h3 : look p.2 x = look p.1 x
        · have es : spW p ready part x = [look p.1 x] := by unfold spW; rw [if_neg h1, if_neg (fun z => z.2 h3)]
          have pw := pw [look p.1 x]
          rw [es] at hP
          simp only [lO, List.map_cons, List.map_nil] at pw
          simp [fnM, fnR, ent, mSeq, mSet, mV, mC, mOp1, mOp2, mChain, mAnd, mOr, mNot, mIf, mArgs, escAll, esc, soft, pk, hard, put, puts, mHards, mPar, mTup, mLst, mDct0, mCall, mRest, mRt, mRtN, mNx, mEx, mIte, mMut, mPut, mIt, bindT, bindTs, isAtom, isLst, isDK, plainAt, wipeE, backE, mFor, mLc, mDc, mWhile, mBk, mCt, mNo, mSl, mNoP, mPt, mJoin, mRng1, mRng2, mZip, mCallK, pickL, mMeth, mProp, mMake, mFld, fnI, fnIR, mDisp, mPairs, o2I, gtI, geI, leI, mStar, mStarT, mStarL, mAugI, mIndex, inD, in_tup, h1, h2, h3, o1, o2, ne_dO, pw, hP]
        · have es : spW p ready part x = [look p.1 x, look p.2 x] := by unfold spW; rw [if_neg h1, if_pos ⟨h2, h3⟩]
          have pw := pw [look p.1 x, look p.2 x]
          rw [es] at hP
          simp only [lO, List.map_cons, List.map_nil] at pw
          simp [fnM, fnR, ent, mSeq, mSet, mV, mC, mOp1, mOp2, mChain, mAnd, mOr, mNot, mIf, mArgs, escAll, esc, soft, pk, hard, put, puts, mHards, mPar, mTup, mLst, mDct0, mCall, mRest, mRt, mRtN, mNx, mEx, mIte, mMut, mPut, mIt, bindT, bindTs, isAtom, isLst, isDK, plainAt, wipeE, backE, mFor, mLc, mDc, mWhile, mBk, mCt, mNo, mSl, mNoP, mPt, mJoin, mRng1, mRng2, mZip, mCallK, pickL, mMeth, mProp, mMake, mFld, fnI, fnIR, mDisp, mPairs, o2I, gtI, geI, leI, mStar, mStarT, mStarL, mAugI, mIndex, inD, in_tup, h1, h2, h3, o1, o2, ne_dO, pw, hP]
      · have es : spW p ready part x = [look p.1 x] := by unfold spW; rw [if_neg h1, if_neg (fun z => h2 z.1)]
        have pw := pw [look p.1 x]
        rw [es] at hP
        simp only [lO, List.map_cons, List.map_nil] at pw
        simp [fnM, fnR, ent, mSeq, mSet, mV, mC, mOp1, mOp2, mChain, mAnd, mOr, mNot, mIf, mArgs, escAll, esc, soft, pk, hard, put, puts, mHards, mPar, mTup, mLst, mDct0, mCall, mRest, mRt, mRtN, mNx, mEx, mIte, mMut, mPut, mIt, bindT, bindTs, isAtom, isLst, isDK, plainAt, wipeE, backE, mFor, mLc, mDc, mWhile, mBk, mCt, mNo, mSl, mNoP, mPt, mJoin, mRng1, mRng2, mZip, mCallK, pickL, mMeth, mProp, mMake, mFld, fnI, fnIR, mDisp, mPairs, o2I, gtI, geI, leI, mStar, mStarT, mStarL, mAugI, mIndex, inD, in_tup, h1, h2, o1, pw, hP]
  · rintro fl s' ⟨rfl, a7, rfl⟩
    simp [fnM, fnR, ent, mSeq, mSet, mV, mC, mOp1, mOp2, mChain, mAnd, mOr, mNot, mIf, mArgs, escAll, esc, soft, pk, hard, put, puts, mHards, mPar, mTup, mLst, mDct0, mCall, mRest, mRt, mRtN, mNx, mEx, mIte, mMut, mPut, mIt, bindT, bindTs, isAtom, isLst, isDK, plainAt, wipeE, backE, mFor, mLc, mDc, mWhile, mBk, mCt, mNo, mSl, mNoP, mPt, mJoin, mRng1, mRng2, mZip, mCallK, pickL, mMeth, mProp, mMake, mFld, fnI, fnIR, mDisp, mPairs, o2I, gtI, geI, leI, mStar, mStarT, mStarL, mAugI, mIndex]
end
end RW
namespace RW
open PySem L2 Gr
/-! ### rows of texts in order -/
theorem ltS_lin : Lin ltS := by
  refine ⟨fun x h => List.lt_irrefl _ h, fun h1 h2 => List.lt_trans h1 h2, fun x y => ?_⟩
  by_cases h1 : ltS x y
  · exact .inl h1
  · by_cases h2 : ltS y x
    · exact .inr (.inr h2)
    · have e : x.cps.toList = y.cps.toList := List.le_antisymm (List.not_lt.mp h2) (List.not_lt.mp h1)
      refine .inr (.inl ?_)
      cases x; cases y
      simp only at e
      simpa using e
def lxS : List Str → List Str → Bool
  | [], [] => false
  | [], _ :: _ => true
  | _ :: _, [] => false
  | x :: xs, y :: ys => if x = y then lxS xs ys else decide (ltS x y)
theorem lxS_irr : ∀ x : List Str, lxS x x = false
  | [] => rfl
  | x :: xs => by rw [lxS, if_pos rfl]; exact lxS_irr xs
theorem lxS_tr : ∀ {x y z : List Str}, lxS x y = true → lxS y z = true → lxS x z = true
  | [], [], _, h, _ => by cases h
  | [], _ :: _, [], _, h => by cases h
  | [], _ :: _, _ :: _, _, _ => rfl
  | _ :: _, [], _, h, _ => by cases h
  | _ :: _, _ :: _, [], _, h => by cases h
  | x :: xs, y :: ys, z :: zs, h1, h2 => by
    rw [lxS] at h1 h2 ⊢
    by_cases e1 : x = y
    · subst e1
      rw [if_pos rfl] at h1
      by_cases e2 : x = z
      · subst e2
        rw [if_pos rfl] at h2 ⊢
        exact lxS_tr h1 h2
      · rw [if_neg e2] at h2 ⊢; exact h2
    · rw [if_neg e1] at h1
      have h1 := of_decide_eq_true h1
      by_cases e2 : y = z
      · subst e2
        rw [if_neg e1]; exact decide_eq_true h1
      · rw [if_neg e2] at h2
        have h2 := of_decide_eq_true h2
        have h3 := ltS_lin.tr h1 h2
        rw [if_neg (fun e => by rw [e] at h3; exact ltS_lin.irr _ h3)]
        exact decide_eq_true h3
theorem lxS_tri : ∀ x y : List Str, lxS x y = true ∨ x = y ∨ lxS y x = true
  | [], [] => .inr (.inl rfl)
  | [], _ :: _ => .inl rfl
  | _ :: _, [] => .inr (.inr rfl)
  | x :: xs, y :: ys => by
    rw [lxS, lxS]
    by_cases e : x = y
    · subst e
      rw [if_pos rfl, if_pos rfl]
      rcases lxS_tri xs ys with h | h | h
      · exact .inl h
      · exact .inr (.inl (by rw [h]))
      · exact .inr (.inr h)
    · rw [if_neg e, if_neg (fun z => e z.symm)]
      rcases ltS_lin.tri x y with h | h | h
      · exact .inl (decide_eq_true h)
      · exact absurd h e
      · exact .inr (.inr (decide_eq_true h))
theorem toPyAll_dS : ∀ xs : List Str, toPyAll (dS xs) = some (xs.map PyData.str)
  | [] => rfl
  | x :: xs => by
    have := toPyAll_dS xs
    unfold dS at this ⊢
    rw [List.map_cons, toPyAll, toPy, this]; rfl
theorem toPy_dR (p : List Str) : toPy (dR p) = some (.tuple (p.map PyData.str)) := by
  unfold dR
  rw [toPy, toPyAll_dS]; rfl
theorem pyD_dR (p : List Str) : pyD (dR p) = .tuple (p.map PyData.str) := by unfold pyD; rw [toPy_dR]; rfl
theorem alikeAll_S : ∀ xs ys : List Str, PySem.W.alikeAll (xs.map PyData.str) (ys.map PyData.str) = true
  | [], _ => by simp [PySem.W.alikeAll]
  | _ :: _, [] => by simp [PySem.W.alikeAll]
  | x :: xs, y :: ys => by
    rw [List.map_cons, List.map_cons, PySem.W.alikeAll, alikeAll_S xs ys]; simp [PySem.W.alike]
theorem rowLt_S : ∀ xs ys : List Str, PySem.W.rowLt (xs.map PyData.str) (ys.map PyData.str) = lxS xs ys
  | [], [] => by
    unfold PySem.W.rowLt; simp [PySem.W.keyToksAll, lxS]
    rw [PySem.W.lex_one]; decide
  | [], y :: ys => by
    unfold PySem.W.rowLt; simp only [PySem.W.keyToksAll, List.map_cons, List.map_nil, lxS]
    rw [PySem.W.lex_atom (by decide), PySem.W.lex_one]; decide
  | x :: xs, [] => by
    unfold PySem.W.rowLt; simp only [PySem.W.keyToksAll, List.map_cons, List.map_nil, lxS]
    rw [PySem.W.lex_atom (by decide), PySem.W.lex_one]; decide
  | x :: xs, y :: ys => by
    have ih := rowLt_S xs ys
    unfold PySem.W.rowLt at ih ⊢
    rw [List.map_cons, List.map_cons, PySem.W.dataLt_cons (by simp [PySem.W.alike]), ih, lxS, PySem.W.dataLt_str]
    have : PyData.eqv (.str x) (.str y) = decide (x = y) := by
      simp only [PyData.eqv]
      exact str_beq x y
    rw [this]
    by_cases e : x = y
    · simp [e]
    · simp [e]; rfl
theorem dataLt_R (p q : List Str) : PySem.W.dataLt (pyD (dR p)) (pyD (dR q)) = lxS p q := by
  rw [pyD_dR, pyD_dR, PySem.W.dataLt_tuple]
  exact rowLt_S p q
end RW
namespace RW
open PySem L2 Gr
/-! ### what can be reached -/
structure ReI (W : Web) (n : Str) (l : List Str) : Prop where
  nd : l.Nodup
  sub : ∀ x ∈ l, x ∈ kW W
  ok : ∀ x ∈ l, Reach (nx W) n x
  has : n ∈ l
theorem ReI.len {W : Web} {n : Str} {l : List Str} (h : ReI W n l) : l.length ≤ W.length := by
  have := nodup_len h.nd h.sub
  unfold kW at this
  rw [List.length_map] at this; exact this
theorem ReI.closed {W : Web} {n : Str} {l : List Str} (h : ReI W n l) (hc : ∀ x ∈ l, ∀ y ∈ nx W x, y ∈ l) (x : Str) : x ∈ l ↔ Reach (nx W) n x := ⟨h.ok x, fun r => reach_closed h.has hc r⟩
theorem ReI.add {W : Web} {n x y : Str} {l : List Str} (h : ReI W n l) (hx : x ∈ l) (hy : y ∈ nx W x) (hn : y ∉ l) : ReI W n (l ++ [y]) := by
  refine ⟨nodup_snoc.mpr ⟨h.nd, hn⟩, fun z hz => ?_, fun z hz => ?_, List.mem_append_left _ h.has⟩
  · rcases List.mem_append.mp hz with hz | hz
    · exact h.sub z hz
    · rw [List.mem_singleton.mp hz]; exact nx_in _ _ hy
  · rcases List.mem_append.mp hz with hz | hz
    · exact h.ok z hz
    · rw [List.mem_singleton.mp hz]; exact (h.ok x hx).step hy
theorem ReI.start {W : Web} {n : Str} (hn : n ∈ kW W) : ReI W n [n] := ⟨by simp, fun x hx => by rw [List.mem_singleton.mp hx]; exact hn, fun x hx => by rw [List.mem_singleton.mp hx]; exact Reach.refl, by simp⟩
section
variable {R : Type} {T : Fm R}
theorem reached_in_ok {W : Web} {m : Nat} (hW : WebOk W m) (hm : m ≤ 6) {n : Str} (hn : n ∈ kW W) (r : R) : ∃ l, f_reached_in T [dW W, .str n] r = some (.tmp (.lst (dS l)), r) ∧ ReI W n l ∧ ∀ x, x ∈ l ↔ Reach (nx W) n x := by
  suffices h : Ev (f_reached_in T [dW W, .str n] r) (fun v r' => (∃ l, v = .tmp (.lst (dS l)) ∧ ReI W n l ∧ ∀ x, x ∈ l ↔ Reach (nx W) n x) ∧ r' = r) by
    obtain ⟨v, r', e, ⟨l, rfl, h⟩, rfl⟩ := h
    exact ⟨l, e, h⟩
  have hlen := hW.len
  unfold f_reached_in m_reached_in
  generalize hWh : mWhile _ _ = Wh
  simp [fnM, fnR, ent, mSeq, mSet, mV, mC, mOp1, mOp2, mChain, mAnd, mOr, mNot, mIf, mArgs, escAll, esc, soft, pk, hard, put, puts, mHards, mPar, mTup, mLst, mDct0, mCall, mRest, mRt, mRtN, mNx, mEx, mIte, mMut, mPut, mIt, bindT, bindTs, isAtom, isLst, isDK, plainAt, wipeE, backE, mFor, mLc, mDc, mWhile, mBk, mCt, mNo, mSl, mNoP, mPt, mJoin, mRng1, mRng2, mZip, mCallK, pickL, mMeth, mProp, mMake, mFld, fnI, fnIR, mDisp, mPairs, o2I, gtI, geI, leI, mStar, mStarT, mStarL, mAugI, mIndex, List.replicate]
  subst hWh
  let I : Nat → S R → Prop := fun k s => ∃ (fs rest : List Str) (a4 : Option Cell), s = ⟨[some ⟨dW W, false⟩, some ⟨.str n, false⟩, some ⟨.lst (dS (fs ++ rest)), true⟩, some ⟨.int fs.length, false⟩, a4], r⟩ ∧ k = W.length - fs.length ∧ ReI W n (fs ++ rest) ∧ ∀ x ∈ fs, ∀ y ∈ nx W x, y ∈ fs ++ rest
  let Q : Fl → S R → Prop := fun fl s => fl = .nx ∧ ∃ (l : List Str) (d : D) (a4 : Option Cell), s = ⟨[some ⟨dW W, false⟩, some ⟨.str n, false⟩, some ⟨.lst (dS l), true⟩, some ⟨d, false⟩, a4], r⟩ ∧ ReI W n l ∧ ∀ x, x ∈ l ↔ Reach (nx W) n x
  refine Ev.mono (Q := Q) (wh_ev I Q (fun k s hs => ?_) wfuel W.length _ (lt_wfuel (by omega)) ⟨[], [n], none, rfl, by simp, ReI.start hn, fun x hx => by simp at hx⟩) ?_
  · obtain ⟨fs, rest, a4, rfl, rfl, hI, hc⟩ := hs
    have hl := hI.len
    have hll := len_lst (dS (fs ++ rest))
    rw [dS_length] at hll
    cases rest with
    | nil =>
      have e1 : ltD (.int fs.length) (.int (fs ++ ([] : List Str)).length) = some (.sh (.bl false)) := by unfold ltD; simp
      have hQ : Q .nx ⟨[some ⟨dW W, false⟩, some ⟨.str n, false⟩, some ⟨.lst (dS (fs ++ [])), true⟩, some ⟨.int fs.length, false⟩, a4], r⟩ := ⟨rfl, _, _, _, rfl, hI, hI.closed (by simpa using hc)⟩
      generalize Q .nx = PP at hQ ⊢
      generalize fs ++ ([] : List Str) = l at *
      simp [fnM, fnR, ent, mSeq, mSet, mV, mC, mOp1, mOp2, mChain, mAnd, mOr, mNot, mIf, mArgs, escAll, esc, soft, pk, hard, put, puts, mHards, mPar, mTup, mLst, mDct0, mCall, mRest, mRt, mRtN, mNx, mEx, mIte, mMut, mPut, mIt, bindT, bindTs, isAtom, isLst, isDK, plainAt, wipeE, backE, mFor, mLc, mDc, mWhile, mBk, mCt, mNo, mSl, mNoP, mPt, mJoin, mRng1, mRng2, mZip, mCallK, pickL, mMeth, mProp, mMake, mFld, fnI, fnIR, mDisp, mPairs, o2I, gtI, geI, leI, mStar, mStarT, mStarL, mAugI, mIndex, hll, e1, hQ]
    | cons x rest =>
      have hx : x ∈ kW W := hI.sub x (by simp)
      have hnn := next_nodes_ok (T := T) hx (by have := hW.two x; omega) r
      have hnl : (nx W x).length ≤ 2 := Nat.le_trans (nx_len W x) (hW.two x)
      have e1 : ltD (.int fs.length) (.int (fs ++ x :: rest).length) = some (.sh (.bl true)) := by unfold ltD; simp; omega
      have e2 : idxD (.lst (dS (fs ++ x :: rest))) (.int fs.length) = some (.sh (.str x)) := by
        have : atI (dS (fs ++ x :: rest)) (fs.length : Int) = some (.str x) := by
          rw [atI_nat' (by simp [dS])]
          simp [dS]
        simp [idxD, idxS, this]
      generalize hFo : mFor _ _ _ = Fo
      have hcut : ∀ {PP : Fl → S R → Prop}, Ev (Fo ⟨[some ⟨dW W, false⟩, some ⟨.str n, false⟩, some ⟨.lst (dS (fs ++ x :: rest)), true⟩, some ⟨.int fs.length, false⟩, a4], r⟩) (fun fl s => fl = .nx ∧ ∃ new a4, s = ⟨[some ⟨dW W, false⟩, some ⟨.str n, false⟩, some ⟨.lst (dS (fs ++ x :: (rest ++ new))), true⟩, some ⟨.int fs.length, false⟩, a4], r⟩ ∧ ReI W n (fs ++ x :: (rest ++ new)) ∧ ∀ y ∈ nx W x, y ∈ fs ++ x :: (rest ++ new)) := by
        intro PP
        rw [← hFo]
        let P2 : List Str → S R → Prop := fun pre s => ∃ (new : List Str) (a4 : Option Cell), s = ⟨[some ⟨dW W, false⟩, some ⟨.str n, false⟩, some ⟨.lst (dS (fs ++ x :: (rest ++ new))), true⟩, some ⟨.int fs.length, false⟩, a4], r⟩ ∧ ReI W n (fs ++ x :: (rest ++ new)) ∧ ∀ y ∈ pre, y ∈ fs ++ x :: (rest ++ new)
        refine (mFor_ev (ds := dS (nx W x)) (s1 := ⟨[some ⟨dW W, false⟩, some ⟨.str n, false⟩, some ⟨.lst (dS (fs ++ x :: rest)), true⟩, some ⟨.int fs.length, false⟩, a4], r⟩) (by simp [fnM, fnR, ent, mSeq, mSet, mV, mC, mOp1, mOp2, mChain, mAnd, mOr, mNot, mIf, mArgs, escAll, esc, soft, pk, hard, put, puts, mHards, mPar, mTup, mLst, mDct0, mCall, mRest, mRt, mRtN, mNx, mEx, mIte, mMut, mPut, mIt, bindT, bindTs, isAtom, isLst, isDK, plainAt, wipeE, backE, mFor, mLc, mDc, mWhile, mBk, mCt, mNo, mSl, mNoP, mPt, mJoin, mRng1, mRng2, mZip, mCallK, pickL, mMeth, mProp, mMake, mFld, fnI, fnIR, mDisp, mPairs, o2I, gtI, geI, leI, mStar, mStarT, mStarL, mAugI, mIndex, e2, hnn, itemsOf]) (each_ev D.str (nx W x) P2 (fun pre y post s e3 hs => ?_) _ ⟨[], a4, by simp, by simpa using hI, fun y hy => by simp at hy⟩))
        obtain ⟨new, a4, rfl, hJ, hpre⟩ := hs
        have hy : y ∈ nx W x := by rw [e3]; simp
        have hjl := hJ.len
        have hin := in_lst y (fs ++ x :: (rest ++ new))
        by_cases hyl : y ∈ fs ++ x :: (rest ++ new)
        · have hP : P2 (pre ++ [y]) ⟨[some ⟨dW W, false⟩, some ⟨.str n, false⟩, some ⟨.lst (dS (fs ++ x :: (rest ++ new))), true⟩, some ⟨.int fs.length, false⟩, some ⟨.str y, false⟩], r⟩ := ⟨new, _, rfl, hJ, fun z hz => by
            rcases List.mem_append.mp hz with hz | hz
            · exact hpre z hz
            · rw [List.mem_singleton.mp hz]; exact hyl⟩
          rw [decide_eq_true hyl] at hin
          generalize P2 (pre ++ [y]) = PP at hP
          generalize fs ++ x :: (rest ++ new) = l at *
          simp [fnM, fnR, ent, mSeq, mSet, mV, mC, mOp1, mOp2, mChain, mAnd, mOr, mNot, mIf, mArgs, escAll, esc, soft, pk, hard, put, puts, mHards, mPar, mTup, mLst, mDct0, mCall, mRest, mRt, mRtN, mNx, mEx, mIte, mMut, mPut, mIt, bindT, bindTs, isAtom, isLst, isDK, plainAt, wipeE, backE, mFor, mLc, mDc, mWhile, mBk, mCt, mNo, mSl, mNoP, mPt, mJoin, mRng1, mRng2, mZip, mCallK, pickL, mMeth, mProp, mMake, mFld, fnI, fnIR, mDisp, mPairs, o2I, gtI, geI, leI, mStar, mStarT, mStarL, mAugI, mIndex, ninD, hin, hP]
        · have hJ' := hJ.add (x := x) (by simp) hy hyl
          have hP : P2 (pre ++ [y]) ⟨[some ⟨dW W, false⟩, some ⟨.str n, false⟩, some ⟨.lst (dS (fs ++ x :: (rest ++ new)) ++ [.str y]), true⟩, some ⟨.int fs.length, false⟩, some ⟨.str y, false⟩], r⟩ := by
            have e4 : fs ++ x :: (rest ++ (new ++ [y])) = fs ++ x :: (rest ++ new) ++ [y] := by simp
            refine ⟨new ++ [y], some ⟨.str y, false⟩, ?_, by rw [e4]; exact hJ', fun z hz => ?_⟩
            · rw [e4]; simp [dS]
            · rw [e4]
              rcases List.mem_append.mp hz with hz | hz
              · exact List.mem_append_left _ (hpre z hz)
              · rw [List.mem_singleton.mp hz]; simp
          rw [decide_eq_false hyl] at hin
          have hsz : (dS (fs ++ x :: (rest ++ new))).length < sizeLine := by rw [dS_length]; unfold sizeLine; omega
          generalize P2 (pre ++ [y]) = PP at hP
          generalize dS (fs ++ x :: (rest ++ new)) = l at *
          simp [fnM, fnR, ent, mSeq, mSet, mV, mC, mOp1, mOp2, mChain, mAnd, mOr, mNot, mIf, mArgs, escAll, esc, soft, pk, hard, put, puts, mHards, mPar, mTup, mLst, mDct0, mCall, mRest, mRt, mRtN, mNx, mEx, mIte, mMut, mPut, mIt, bindT, bindTs, isAtom, isLst, isDK, plainAt, wipeE, backE, mFor, mLc, mDc, mWhile, mBk, mCt, mNo, mSl, mNoP, mPt, mJoin, mRng1, mRng2, mZip, mCallK, pickL, mMeth, mProp, mMake, mFld, fnI, fnIR, mDisp, mPairs, o2I, gtI, geI, leI, mStar, mStarT, mStarL, mAugI, mIndex, ninD, hin, appL, hsz, hP]
      obtain ⟨fl, s2, e5, rfl, new, a4', rfl, hJ, hne⟩ := hcut (PP := fun _ _ => True)
      have hI2 : ∃ m, m < W.length - fs.length ∧ I m ⟨[some ⟨dW W, false⟩, some ⟨.str n, false⟩, some ⟨.lst (dS (fs ++ x :: (rest ++ new))), true⟩, some ⟨.int (fs.length + 1), false⟩, a4'], r⟩ := by
        have hJl := hJ.len
        refine ⟨W.length - (fs ++ [x]).length, by simp at hJl ⊢; omega, fs ++ [x], rest ++ new, a4', ?_, rfl, by simpa using hJ, fun y hy z hz => ?_⟩
        · simp
        · rcases List.mem_append.mp hy with hy | hy
          · have := hc y hy z hz
            simp at this ⊢
            rcases this with h | h | h
            · exact .inl h
            · exact .inr (.inl h)
            · exact .inr (.inr (.inl h))
          · rw [List.mem_singleton.mp hy] at hz
            have := hne z hz
            simpa using this
      clear_value I Q
      generalize dS (fs ++ x :: (rest ++ new)) = l' at *
      generalize dS (fs ++ x :: rest) = l at *
      generalize (fs ++ x :: rest).length = ll at *
      simp [fnM, fnR, ent, mSeq, mSet, mV, mC, mOp1, mOp2, mChain, mAnd, mOr, mNot, mIf, mArgs, escAll, esc, soft, pk, hard, put, puts, mHards, mPar, mTup, mLst, mDct0, mCall, mRest, mRt, mRtN, mNx, mEx, mIte, mMut, mPut, mIt, bindT, bindTs, isAtom, isLst, isDK, plainAt, wipeE, backE, mFor, mLc, mDc, mWhile, mBk, mCt, mNo, mSl, mNoP, mPt, mJoin, mRng1, mRng2, mZip, mCallK, pickL, mMeth, mProp, mMake, mFld, fnI, fnIR, mDisp, mPairs, o2I, gtI, geI, leI, mStar, mStarT, mStarL, mAugI, mIndex, hll, e1, e5, hI2]
  · rintro fl s' ⟨rfl, l, d, a4, rfl, hI, hr⟩
    simp [fnM, fnR, ent, mSeq, mSet, mV, mC, mOp1, mOp2, mChain, mAnd, mOr, mNot, mIf, mArgs, escAll, esc, soft, pk, hard, put, puts, mHards, mPar, mTup, mLst, mDct0, mCall, mRest, mRt, mRtN, mNx, mEx, mIte, mMut, mPut, mIt, bindT, bindTs, isAtom, isLst, isDK, plainAt, wipeE, backE, mFor, mLc, mDc, mWhile, mBk, mCt, mNo, mSl, mNoP, mPt, mJoin, mRng1, mRng2, mZip, mCallK, pickL, mMeth, mProp, mMake, mFld, fnI, fnIR, mDisp, mPairs, o2I, gtI, geI, leI, mStar, mStarT, mStarL, mAugI, mIndex]
    exact ⟨l, rfl, hI, hr⟩
end
end RW
namespace RW
open PySem L2 Gr
/-! ### the least one of the shortest rings -/
abbrev RingW (W : Web) (p : List Str) : Prop := Ring (nx W) ltS p ∧ ∀ x ∈ p, x ∈ kW W
def BestR (W : Web) : Option (List Str) → Prop
  | none => ∀ p, ¬ RingW W p
  | some p => RingW W p ∧ ∀ q, RingW W q → p.length < q.length ∨ (p.length = q.length ∧ (p = q ∨ lxS p q = true))
theorem best_unique {W : Web} {o o' : Option (List Str)} (h : BestR W o) (h' : BestR W o') : o = o' := by
  cases o with
  | none =>
    cases o' with
    | none => rfl
    | some q => exact absurd h'.1 (h q)
  | some p =>
    cases o' with
    | none => exact absurd h.1 (h' p)
    | some q =>
      rcases h.2 q h'.1 with a | ⟨a, b⟩
      · rcases h'.2 p h.1 with c | ⟨c, _⟩ <;> omega
      · rcases b with b | b
        · rw [b]
        · rcases h'.2 p h.1 with c | ⟨_, c⟩
          · omega
          · rcases c with c | c
            · rw [c]
            · have := lxS_tr b c
              rw [lxS_irr] at this; cases this
theorem ring_two {W : Web} {m : Nat} (hW : WebOk W m) {p : List Str} (h : RingW W p) : 2 ≤ p.length ∧ p.length ≤ W.length := by
  constructor
  · obtain ⟨a, l, z, e1, e2, e3⟩ := h.1.back
    cases l with
    | nil =>
      rw [e1] at e2
      have : a = z := by simpa using e2
      subst this
      exact absurd (nx_mem.mp e3).1 (hW.self a)
    | cons b l => rw [e1]; simp
  · have := nodup_len h.1.nd h.2
    unfold kW at this; rw [List.length_map] at this; exact this
theorem ring_sub {W : Web} {p : List Str} (h : Ring (nx W) ltS p) : ∀ x ∈ p, x ∈ kW W := by
  have hc : Ch (nx W) p := h.ch
  obtain ⟨a, l, z, e1, e2, e3⟩ := h.back
  have ha : a ∈ kW W := nx_in _ _ e3
  subst e1
  intro x hx
  exact reach_in nx_in ha (reach_ch hc hx)
def minR (p : List Str) (ps : List (List Str)) : List Str := ps.foldl (fun a y => if lxS y a = true then y else a) p
theorem minL_R : ∀ (ps : List (List Str)) (p : List Str), minL (dR p) (ps.map dR) = dR (minR p ps)
  | [], p => rfl
  | q :: ps, p => by
    have e1 : minL (dR p) ((q :: ps).map dR) = minL (if PySem.W.dataLt (pyD (dR q)) (pyD (dR p)) = true then dR q else dR p) (ps.map dR) := rfl
    have e2 : minR p (q :: ps) = minR (if lxS q p = true then q else p) ps := rfl
    rw [e1, e2, dataLt_R, ← minL_R ps]
    congr 1
    split <;> rfl
theorem minR_spec : ∀ (ps : List (List Str)) (p : List Str), minR p ps ∈ p :: ps ∧ ∀ q ∈ p :: ps, minR p ps = q ∨ lxS (minR p ps) q = true
  | [], p => ⟨List.mem_singleton.mpr rfl, fun q hq => .inl (List.mem_singleton.mp hq).symm⟩
  | q :: ps, p => by
    have e2 : minR p (q :: ps) = minR (if lxS q p = true then q else p) ps := rfl
    obtain ⟨h1, h2⟩ := minR_spec ps (if lxS q p = true then q else p)
    rw [e2]
    by_cases hq : lxS q p = true
    · rw [if_pos hq] at h1 h2 ⊢
      refine ⟨List.mem_cons_of_mem _ h1, fun x hx => ?_⟩
      rcases List.mem_cons.mp hx with e | hx
      · subst e
        rcases h2 q List.mem_cons_self with z | z
        · rw [z]; exact .inr hq
        · exact .inr (lxS_tr z hq)
      · exact h2 x hx
    · rw [if_neg hq] at h1 h2 ⊢
      refine ⟨?_, fun x hx => ?_⟩
      · rcases List.mem_cons.mp h1 with e | e
        · rw [e]; exact List.mem_cons_self
        · exact List.mem_cons_of_mem _ (List.mem_cons_of_mem _ e)
      · rcases List.mem_cons.mp hx with e | hx
        · exact h2 x (by rw [e]; exact List.mem_cons_self)
        · rcases List.mem_cons.mp hx with e | hx
          · subst e
            rcases lxS_tri p x with t | t | t
            · rcases h2 p List.mem_cons_self with z | z
              · rw [z]; exact .inr t
              · exact .inr (lxS_tr z t)
            · rw [← t]; exact h2 p List.mem_cons_self
            · exact absurd t hq
          · exact h2 x (List.mem_cons_of_mem _ hx)
theorem toPyAll_R : ∀ ps : List (List Str), toPyAll (ps.map dR) = some (ps.map fun p => PyData.tuple (p.map PyData.str))
  | [] => rfl
  | p :: ps => by rw [List.map_cons, toPyAll, toPy_dR, toPyAll_R ps]; rfl
theorem depth_S : ∀ xs : List Str, PyData.depthAll (xs.map PyData.str) = 0
  | [] => rfl
  | x :: xs => by
    have := depth_S xs
    simp only [List.map_cons, PyData.depthAll, PyData.depth, this]; rfl
theorem depth_R : ∀ ps : List (List Str), PyData.depthAll (ps.map fun p => PyData.tuple (p.map PyData.str)) ≤ 1
  | [] => by simp [PyData.depthAll]
  | p :: ps => by
    have := depth_R ps
    simp only [List.map_cons, PyData.depthAll, PyData.depth, depth_S]
    omega
theorem okM_R (ps : List (List Str)) : okM (ps.map fun p => PyData.tuple (p.map PyData.str)) = true := by
  unfold okM
  rw [Bool.and_eq_true, Bool.and_eq_true, List.all_eq_true, List.all_eq_true]
  refine ⟨fun x hx => ?_, fun x hx => ?_, decide_eq_true (Nat.le_trans (depth_R ps) (by omega))⟩
  · rw [List.all_eq_true]
    intro y hy
    obtain ⟨p, _, rfl⟩ := List.mem_map.mp hx
    obtain ⟨q, _, rfl⟩ := List.mem_map.mp hy
    rw [PySem.W.alike]; exact alikeAll_S p q
  · obtain ⟨p, _, rfl⟩ := List.mem_map.mp hx
    rfl
theorem min_R (p : List Str) (ps : List (List Str)) : minF (.lst ((p :: ps).map dR)) = some (.sh (dR (minR p ps))) := by
  have h := toPyAll_R (p :: ps)
  rw [List.map_cons] at h ⊢
  have e : minF (.lst (dR p :: ps.map dR)) = minE (.lst (dR p :: ps.map dR)) := rfl
  rw [e]
  show (toPyAll (dR p :: ps.map dR)).bind (fun ps' => if okM ps' = true then some (Vr.sh (minL (dR p) (ps.map dR))) else none) = _
  rw [h]
  show (if okM ((p :: ps).map fun p => PyData.tuple (p.map PyData.str)) = true then some (Vr.sh (minL (dR p) (ps.map dR))) else none) = _
  rw [if_pos (okM_R _), minL_R]
section
variable {R : Type} {T : Fm R}
def dOR : Option (List Str) → D
  | none => .non
  | some p => dR p
theorem rngs_len {W : Web} {m : Nat} (hW : WebOk W m) (k : Nat) (hk : k ≤ 8) (pre : List Str) : (pre.flatMap fun n => (rows (nx W) ltS n (k - 1)).filter fun p => decide (n ∈ nx W (p.getLastD n))).length ≤ 128 * pre.length := by
  refine flat_len (fun n => ?_) pre
  refine Nat.le_trans (List.length_filter_le _ _) (Nat.le_trans (rows_len hW n (k - 1)) ?_)
  have : 2 ^ (k - 1) ≤ 2 ^ 7 := Nat.pow_le_pow_right (by omega) (by omega)
  simpa using this
theorem rng2 {ma mb : M R Vr} {s s1 s2 : S R} {lo hi : Int} {n : Nat} (h : ma s = some (.sh (.int lo), s1)) (h2 : mb s1 = some (.sh (.int hi), s2)) (hn : (hi - lo).toNat = n) (hs : lo.natAbs ≤ 1000) (hs2 : hi.natAbs ≤ 1000) : mRng2 ma mb s = some (rangeOf n lo, s2) := by
  unfold mRng2
  rw [h]
  simp only [Option.bind, h2]
  rw [if_pos ⟨by omega, by omega⟩, hn]
theorem ring_in_ok {W : Web} {m : Nat} (hW : WebOk W m) (hm : m ≤ 6) (r : R) : ∃ o, f_ring_in T [dW W] r = some (.sh (dOR o), r) ∧ BestR W o := by
  suffices h : Ev (f_ring_in T [dW W] r) (fun v r' => (∃ o, v = .sh (dOR o) ∧ BestR W o) ∧ r' = r) by
    obtain ⟨v, r', e, ⟨o, rfl, h⟩, rfl⟩ := h
    exact ⟨o, e, h⟩
  have hlen := hW.len
  unfold f_ring_in m_ring_in
  generalize hF : mFor _ _ _ = F1
  simp [fnM, fnR, ent, mSeq, mSet, mV, mC, mOp1, mOp2, mChain, mAnd, mOr, mNot, mIf, mArgs, escAll, esc, soft, pk, hard, put, puts, mHards, mPar, mTup, mLst, mDct0, mCall, mRest, mRt, mRtN, mNx, mEx, mIte, mMut, mPut, mIt, bindT, bindTs, isAtom, isLst, isDK, plainAt, wipeE, backE, mFor, mLc, mDc, mWhile, mBk, mCt, mNo, mSl, mNoP, mPt, mJoin, mRng1, mRng2, mZip, mCallK, pickL, mMeth, mProp, mMake, mFld, fnI, fnIR, mDisp, mPairs, o2I, gtI, geI, leI, mStar, mStarT, mStarL, mAugI, mIndex, List.replicate]
  subst hF
  let P : Nat → S R → Prop := fun j s => (∃ (a1 a2 a3 : Option Cell), s = ⟨[some ⟨dW W, false⟩, a1, a2, a3], r⟩) ∧ ∀ p, RingW W p → j + 2 ≤ p.length
  let Q : Vr → S R → Prop := fun v s => (∃ p, v = .sh (dR p) ∧ BestR W (some p)) ∧ s.r = r
  refine (mFor_ev (ds := rangeOf (W.length - 1) 2) (s1 := ⟨[some ⟨dW W, false⟩, none, none, none], r⟩) (rng2 (lo := 2) (hi := (W.length : Int) + 1) (s1 := ⟨[some ⟨dW W, false⟩, none, none, none], r⟩) rfl (by simp [fnM, fnR, ent, mSeq, mSet, mV, mC, mOp1, mOp2, mChain, mAnd, mOr, mNot, mIf, mArgs, escAll, esc, soft, pk, hard, put, puts, mHards, mPar, mTup, mLst, mDct0, mCall, mRest, mRt, mRtN, mNx, mEx, mIte, mMut, mPut, mIt, bindT, bindTs, isAtom, isLst, isDK, plainAt, wipeE, backE, mFor, mLc, mDc, mWhile, mBk, mCt, mNo, mSl, mNoP, mPt, mJoin, mRng1, mRng2, mZip, mCallK, pickL, mMeth, mProp, mMake, mFld, fnI, fnIR, mDisp, mPairs, o2I, gtI, geI, leI, mStar, mStarT, mStarL, mAugI, mIndex, len_dT, addD]) (by omega) (by omega) (by omega)) (rep_ret (W.length - 1) 2 P Q (fun j s hj hs => ?_) _ ⟨⟨none, none, none, rfl⟩, fun p hp => (ring_two hW hp).1⟩)).mono ?_
  · obtain ⟨⟨a1, a2, a3, rfl⟩, hlow⟩ := hs
    generalize hF2 : mFor _ _ _ = F2
    simp [fnM, fnR, ent, mSeq, mSet, mV, mC, mOp1, mOp2, mChain, mAnd, mOr, mNot, mIf, mArgs, escAll, esc, soft, pk, hard, put, puts, mHards, mPar, mTup, mLst, mDct0, mCall, mRest, mRt, mRtN, mNx, mEx, mIte, mMut, mPut, mIt, bindT, bindTs, isAtom, isLst, isDK, plainAt, wipeE, backE, mFor, mLc, mDc, mWhile, mBk, mCt, mNo, mSl, mNoP, mPt, mJoin, mRng1, mRng2, mZip, mCallK, pickL, mMeth, mProp, mMake, mFld, fnI, fnIR, mDisp, mPairs, o2I, gtI, geI, leI, mStar, mStarT, mStarL, mAugI, mIndex]
    subst hF2
    let f : Str → List (List Str) := fun n => (rows (nx W) ltS n (j + 2 - 1)).filter fun p => decide (n ∈ nx W (p.getLastD n))
    let P2 : List Str → S R → Prop := fun pre s => ∃ (a3 : Option Cell), s = ⟨[some ⟨dW W, false⟩, some ⟨.int (2 + j), false⟩, some ⟨.lst ((pre.flatMap f).map dR), true⟩, a3], r⟩
    refine (mFor_ev (ds := dS (kW W)) (s1 := ⟨[some ⟨dW W, false⟩, some ⟨.int (2 + j), false⟩, some ⟨.lst [], true⟩, a3], r⟩) (by simp [fnM, fnR, ent, mSeq, mSet, mV, mC, mOp1, mOp2, mChain, mAnd, mOr, mNot, mIf, mArgs, escAll, esc, soft, pk, hard, put, puts, mHards, mPar, mTup, mLst, mDct0, mCall, mRest, mRt, mRtN, mNx, mEx, mIte, mMut, mPut, mIt, bindT, bindTs, isAtom, isLst, isDK, plainAt, wipeE, backE, mFor, mLc, mDc, mWhile, mBk, mCt, mNo, mSl, mNoP, mPt, mJoin, mRng1, mRng2, mZip, mCallK, pickL, mMeth, mProp, mMake, mFld, fnI, fnIR, mDisp, mPairs, o2I, gtI, geI, leI, mStar, mStarT, mStarL, mAugI, mIndex, items_dT]; rfl) (each_ev D.str (kW W) P2 (fun pre x post s e1 hs => ?_) _ ⟨a3, rfl⟩)).mono ?_
    · obtain ⟨a3, rfl⟩ := hs
      have hx : x ∈ kW W := by rw [e1]; simp
      have ek : (2 + (j : Int)) = ((j + 2 : Nat) : Int) := by omega
      have er := rings_from_ok (T := T) hW hx (k := j + 2) (by omega) (by omega) r
      have hsz : (pre.flatMap f).length + (f x).length ≤ sizeLine := by
        have h1 := rngs_len hW (j + 2) (by omega) pre
        have h2 := rngs_len hW (j + 2) (by omega) [x]
        have h3 : pre.length ≤ W.length := by
          have : (kW W).length = W.length := by unfold kW; rw [List.length_map]
          rw [← this, e1]; simp
        have h2 : (f x).length ≤ 128 := by simpa [f] using h2
        have h1 : (pre.flatMap f).length ≤ 128 * pre.length := h1
        unfold sizeLine; omega
      have hP : P2 (pre ++ [x]) ⟨[some ⟨dW W, false⟩, some ⟨.int (2 + j), false⟩, some ⟨.lst ((pre.flatMap f).map dR ++ (f x).map dR), true⟩, some ⟨.str x, false⟩], r⟩ := by
        refine ⟨some ⟨.str x, false⟩, ?_⟩
        rw [List.flatMap_append, List.flatMap_cons, List.flatMap_nil, List.append_nil, List.map_append]
      have er : f_rings_from T [dW W, .str x, .int (2 + j)] r = some (.tmp (.lst ((f x).map dR)), r) := by rw [ek]; exact er
      generalize f x = Y at er hsz hP
      generalize pre.flatMap f = Z at hsz hP
      generalize P2 (pre ++ [x]) = PP at hP
      simp [fnM, fnR, ent, mSeq, mSet, mV, mC, mOp1, mOp2, mChain, mAnd, mOr, mNot, mIf, mArgs, escAll, esc, soft, pk, hard, put, puts, mHards, mPar, mTup, mLst, mDct0, mCall, mRest, mRt, mRtN, mNx, mEx, mIte, mMut, mPut, mIt, bindT, bindTs, isAtom, isLst, isDK, plainAt, wipeE, backE, mFor, mLc, mDc, mWhile, mBk, mCt, mNo, mSl, mNoP, mPt, mJoin, mRng1, mRng2, mZip, mCallK, pickL, mMeth, mProp, mMake, mFld, fnI, fnIR, mDisp, mPairs, o2I, gtI, geI, leI, mStar, mStarT, mStarL, mAugI, mIndex, er, extL, hsz, hP]
    · rintro fl s' ⟨rfl, a3, rfl⟩
      have hmem : ∀ p, p ∈ (kW W).flatMap f ↔ Ring (nx W) ltS p ∧ p.length = j + 2 ∧ ∃ n ∈ kW W, p.head? = some n := fun p => mem_ringsAt (by omega)
      generalize (kW W).flatMap f = Z at hmem
      have hcut : ∀ p, RingW W p → p.length = j + 2 → p ∈ Z := fun p hp hl => by
        refine (hmem p).mpr ⟨hp.1, hl, ?_⟩
        obtain ⟨a, l, e, _⟩ := hp.1.least
        exact ⟨a, hp.2 a (by rw [e]; exact List.mem_cons_self), by rw [e]; rfl⟩
      cases Z with
      | nil =>
        have e0 : gtD (.int 0) (.int 0) = some (.sh (.bl false)) := rfl
        simp [fnM, fnR, ent, mSeq, mSet, mV, mC, mOp1, mOp2, mChain, mAnd, mOr, mNot, mIf, mArgs, escAll, esc, soft, pk, hard, put, puts, mHards, mPar, mTup, mLst, mDct0, mCall, mRest, mRt, mRtN, mNx, mEx, mIte, mMut, mPut, mIt, bindT, bindTs, isAtom, isLst, isDK, plainAt, wipeE, backE, mFor, mLc, mDc, mWhile, mBk, mCt, mNo, mSl, mNoP, mPt, mJoin, mRng1, mRng2, mZip, mCallK, pickL, mMeth, mProp, mMake, mFld, fnI, fnIR, mDisp, mPairs, o2I, gtI, geI, leI, mStar, mStarT, mStarL, mAugI, mIndex, lenD, e0]
        refine ⟨⟨_, _, _, rfl⟩, fun p hp => ?_⟩
        have h1 := hlow p hp
        rcases Nat.lt_or_ge p.length (j + 3) with z | z
        · have := hcut p hp (by omega)
          simp at this
        · omega
      | cons p ps =>
        have e0 : gtD (.int ((ps.length : Int) + 1)) (.int 0) = some (.sh (.bl true)) := by
          simp only [gtD]; rw [decide_eq_true (by omega)]
        have e1 := min_R p ps
        rw [List.map_cons] at e1
        have hQ : Q (.sh (dR (minR p ps))) ⟨[some ⟨dW W, false⟩, some ⟨.int (2 + j), false⟩, some ⟨.lst (dR p :: ps.map dR), true⟩, a3], r⟩ := by
          obtain ⟨h1, h2⟩ := minR_spec ps p
          obtain ⟨g1, g2, _⟩ := (hmem _).mp h1
          refine ⟨⟨minR p ps, rfl, ⟨g1, ring_sub g1⟩, fun q hq => ?_⟩, rfl⟩
          have := hlow q hq
          rcases Nat.lt_or_ge (j + 2) q.length with z | z
          · left; omega
          · refine .inr ⟨by omega, h2 q (hcut q hq (by omega))⟩
        simp [fnM, fnR, ent, mSeq, mSet, mV, mC, mOp1, mOp2, mChain, mAnd, mOr, mNot, mIf, mArgs, escAll, esc, soft, pk, hard, put, puts, mHards, mPar, mTup, mLst, mDct0, mCall, mRest, mRt, mRtN, mNx, mEx, mIte, mMut, mPut, mIt, bindT, bindTs, isAtom, isLst, isDK, plainAt, wipeE, backE, mFor, mLc, mDc, mWhile, mBk, mCt, mNo, mSl, mNoP, mPt, mJoin, mRng1, mRng2, mZip, mCallK, pickL, mMeth, mProp, mMake, mFld, fnI, fnIR, mDisp, mPairs, o2I, gtI, geI, leI, mStar, mStarT, mStarL, mAugI, mIndex, lenD, e0, e1, hQ]
  · rintro fl s' (⟨rfl, ⟨a1, a2, a3, rfl⟩, hlow⟩ | ⟨v, rfl, ⟨p, rfl, hb⟩, hr⟩)
    · simp [fnM, fnR, ent, mSeq, mSet, mV, mC, mOp1, mOp2, mChain, mAnd, mOr, mNot, mIf, mArgs, escAll, esc, soft, pk, hard, put, puts, mHards, mPar, mTup, mLst, mDct0, mCall, mRest, mRt, mRtN, mNx, mEx, mIte, mMut, mPut, mIt, bindT, bindTs, isAtom, isLst, isDK, plainAt, wipeE, backE, mFor, mLc, mDc, mWhile, mBk, mCt, mNo, mSl, mNoP, mPt, mJoin, mRng1, mRng2, mZip, mCallK, pickL, mMeth, mProp, mMake, mFld, fnI, fnIR, mDisp, mPairs, o2I, gtI, geI, leI, mStar, mStarT, mStarL, mAugI, mIndex]
      refine ⟨none, rfl, fun p hp => ?_⟩
      have := hlow p hp
      have := ring_two hW hp
      omega
    · simp [fnM, fnR, ent, mSeq, mSet, mV, mC, mOp1, mOp2, mChain, mAnd, mOr, mNot, mIf, mArgs, escAll, esc, soft, pk, hard, put, puts, mHards, mPar, mTup, mLst, mDct0, mCall, mRest, mRt, mRtN, mNx, mEx, mIte, mMut, mPut, mIt, bindT, bindTs, isAtom, isLst, isDK, plainAt, wipeE, backE, mFor, mLc, mDc, mWhile, mBk, mCt, mNo, mSl, mNoP, mPt, mJoin, mRng1, mRng2, mZip, mCallK, pickL, mMeth, mProp, mMake, mFld, fnI, fnIR, mDisp, mPairs, o2I, gtI, geI, leI, mStar, mStarT, mStarL, mAugI, mIndex]
      exact ⟨⟨some p, rfl, hb⟩, hr⟩
end
end RW
namespace RW
open PySem L2 Gr
/-! ### rows that come back -/
def Las (W : Web) (n : Str) : Option (List Str) → Prop
  | none => wk (nx W) W.length n = false
  | some l => ∃ p x, l = p ++ [x] ∧ Ch (nx W) l ∧ p.Nodup ∧ p.head? = some n ∧ x ∈ p ∧ ∀ q, Ch (nx W) q → q.head? = some n → q.length ≤ p.length → q.Nodup
def vLas : Option (List Str) → Vr
  | none => .sh .non
  | some l => .tmp (.lst (dS l))
theorem rws_len {W : Web} {m : Nat} (hW : WebOk W m) (n : Str) : ∀ k, (rws (N := nx W) n k).length ≤ 2 ^ k
  | 0 => by simp [rws]
  | k + 1 => by
    rw [rws, Nat.pow_succ]
    have := flat_len (f := fun p : List Str => (nx W (p.getLastD n)).map fun x => p ++ [x]) (k := 2) (fun p => by rw [List.length_map]; exact Nat.le_trans (nx_len _ _) (hW.two _)) (rws (N := nx W) n k)
    have := rws_len hW n k
    omega
def exW (W : Web) (n : Str) (p : List Str) : List (List Str) := (nx W (p.getLastD n)).map fun x => p ++ [x]
section
variable {R : Type} {T : Fm R}
theorem lasso_ok {W : Web} {m : Nat} (hW : WebOk W m) (hm : m ≤ 6) {n : Str} (hn : n ∈ kW W) (r : R) : ∃ o, f_lasso_from T [dW W, .str n] r = some (vLas o, r) ∧ Las W n o := by
  suffices h : Ev (f_lasso_from T [dW W, .str n] r) (fun v r' => (∃ o, v = vLas o ∧ Las W n o) ∧ r' = r) by
    obtain ⟨v, r', e, ⟨o, rfl, h⟩, rfl⟩ := h
    exact ⟨o, e, h⟩
  have hlen := hW.len
  have hkl : (kW W).length = W.length := by unfold kW; rw [List.length_map]
  unfold f_lasso_from m_lasso_from
  generalize hWh : mWhile _ _ = Wh
  simp [fnM, fnR, ent, mSeq, mSet, mV, mC, mOp1, mOp2, mChain, mAnd, mOr, mNot, mIf, mArgs, escAll, esc, soft, pk, hard, put, puts, mHards, mPar, mTup, mLst, mDct0, mCall, mRest, mRt, mRtN, mNx, mEx, mIte, mMut, mPut, mIt, bindT, bindTs, isAtom, isLst, isDK, plainAt, wipeE, backE, mFor, mLc, mDc, mWhile, mBk, mCt, mNo, mSl, mNoP, mPt, mJoin, mRng1, mRng2, mZip, mCallK, pickL, mMeth, mProp, mMake, mFld, fnI, fnIR, mDisp, mPairs, o2I, gtI, geI, leI, mStar, mStarT, mStarL, mAugI, mIndex, List.replicate]
  subst hWh
  let Fi : Nat → Prop := fun j => ∀ q, Ch (nx W) q → q.head? = some n → q.length ≤ j → q.Nodup
  let I : Nat → S R → Prop := fun k s => ∃ (j : Nat) (b : Bool) (a3 a4 a5 : Option Cell), s = ⟨[some ⟨dW W, false⟩, some ⟨.str n, false⟩, some ⟨.lst ((rws (N := nx W) n j).map dR), b⟩, a3, a4, a5], r⟩ ∧ k = W.length - j ∧ j ≤ W.length ∧ Fi (j + 1)
  let Q : Fl → S R → Prop := fun fl s => s.r = r ∧ ((fl = .nx ∧ wk (nx W) W.length n = false) ∨ ∃ l, fl = .rt (.tmp (.lst (dS l))) ∧ Las W n (some l))
  have fi1 : Fi 1 := fun q hq hh hl => by
    match q, hh, hl with
    | [a], _, _ => simp
  refine Ev.mono (Q := Q) (wh_ev I Q (fun k s hs => ?_) wfuel W.length _ (lt_wfuel (by omega)) ⟨0, true, none, none, none, rfl, by omega, by omega, fi1⟩) ?_
  · obtain ⟨j, b, a3, a4, a5, rfl, rfl, hj, hfi⟩ := hs
    have hrl := rws_len hW n j
    have h2j : 2 ^ j ≤ 2 ^ 6 := Nat.pow_le_pow_right (by omega) (by omega)
    have hmem := fun q => mem_rws (N := nx W) (n := n) j q
    have hll := len_lst ((rws (N := nx W) n j).map dR)
    rw [List.length_map] at hll
    have hnx : rws (N := nx W) n (j + 1) = (rws (N := nx W) n j).flatMap (exW W n) := rfl
    by_cases hnil : rws (N := nx W) n j = []
    · have hQ : Q .nx ⟨[some ⟨dW W, false⟩, some ⟨.str n, false⟩, some ⟨.lst ((rws (N := nx W) n j).map dR), b⟩, a3, a4, a5], r⟩ := by
        refine ⟨rfl, .inl ⟨rfl, ?_⟩⟩
        have h0 := rws_nil hnil
        cases hw : wk (nx W) W.length n with
        | false => rfl
        | true => rw [wk_le hj hw] at h0; cases h0
      have hgt : gtD (.int (rws (N := nx W) n j).length) (.int 0) = some (.sh (.bl false)) := by rw [hnil]; rfl
      clear_value I Q
      generalize (rws (N := nx W) n j).map dR = l at *
      cases b <;> simp [fnM, fnR, ent, mSeq, mSet, mV, mC, mOp1, mOp2, mChain, mAnd, mOr, mNot, mIf, mArgs, escAll, esc, soft, pk, hard, put, puts, mHards, mPar, mTup, mLst, mDct0, mCall, mRest, mRt, mRtN, mNx, mEx, mIte, mMut, mPut, mIt, bindT, bindTs, isAtom, isLst, isDK, plainAt, wipeE, backE, mFor, mLc, mDc, mWhile, mBk, mCt, mNo, mSl, mNoP, mPt, mJoin, mRng1, mRng2, mZip, mCallK, pickL, mMeth, mProp, mMake, mFld, fnI, fnIR, mDisp, mPairs, o2I, gtI, geI, leI, mStar, mStarT, mStarL, mAugI, mIndex, hll, hgt, hQ]
    · have hjl : j + 1 ≤ W.length := by
        obtain ⟨q, hq⟩ := List.exists_mem_of_ne_nil _ hnil
        obtain ⟨c, hl, hh⟩ := (hmem q).mp hq
        have hsub : ∀ x ∈ q, x ∈ kW W := by
          match q, hh, c with
          | a :: q, hh, c =>
            have : a = n := by simpa using hh
            subst this
            exact fun x hx => reach_in nx_in hn (reach_ch c hx)
        have := nodup_len (hfi q c hh (by omega)) hsub
        rw [hkl] at this
        omega
      have hgt : gtD (.int (rws (N := nx W) n j).length) (.int 0) = some (.sh (.bl true)) := by
        rw [gt_int, decide_eq_true (by have := List.length_pos_iff.mpr hnil; omega)]
      generalize hFo : mFor _ _ _ = Fo
      have hcut : Ev (Fo ⟨[some ⟨dW W, false⟩, some ⟨.str n, false⟩, some ⟨.lst ((rws (N := nx W) n j).map dR), b⟩, some ⟨.lst [], true⟩, a4, a5], r⟩) (fun fl s => (fl = .nx ∧ ∃ a4 a5, s = ⟨[some ⟨dW W, false⟩, some ⟨.str n, false⟩, some ⟨.lst ((rws (N := nx W) n j).map dR), false⟩, some ⟨.lst ((rws (N := nx W) n (j + 1)).map dR), true⟩, a4, a5], r⟩ ∧ ∀ p ∈ rws (N := nx W) n j, ∀ x ∈ nx W (p.getLastD n), x ∉ p) ∨ ∃ v, fl = .rt v ∧ ∃ l, v = .tmp (.lst (dS l)) ∧ s.r = r ∧ Las W n (some l)) := by
        rw [← hFo, hnx]
        let P2 : List (List Str) → S R → Prop := fun pre s => ∃ (a4 a5 : Option Cell), s = ⟨[some ⟨dW W, false⟩, some ⟨.str n, false⟩, some ⟨.lst ((rws (N := nx W) n j).map dR), false⟩, some ⟨.lst ((pre.flatMap (exW W n)).map dR), true⟩, a4, a5], r⟩ ∧ ∀ p ∈ pre, ∀ x ∈ nx W (p.getLastD n), x ∉ p
        let Q2 : Vr → S R → Prop := fun v s => ∃ l, v = .tmp (.lst (dS l)) ∧ s.r = r ∧ Las W n (some l)
        refine (mFor_ev (ds := (rws (N := nx W) n j).map dR) (s1 := ⟨[some ⟨dW W, false⟩, some ⟨.str n, false⟩, some ⟨.lst ((rws (N := nx W) n j).map dR), false⟩, some ⟨.lst [], true⟩, a4, a5], r⟩) (by cases b <;> simp [fnM, fnR, ent, mSeq, mSet, mV, mC, mOp1, mOp2, mChain, mAnd, mOr, mNot, mIf, mArgs, escAll, esc, soft, pk, hard, put, puts, mHards, mPar, mTup, mLst, mDct0, mCall, mRest, mRt, mRtN, mNx, mEx, mIte, mMut, mPut, mIt, bindT, bindTs, isAtom, isLst, isDK, plainAt, wipeE, backE, mFor, mLc, mDc, mWhile, mBk, mCt, mNo, mSl, mNoP, mPt, mJoin, mRng1, mRng2, mZip, mCallK, pickL, mMeth, mProp, mMake, mFld, fnI, fnIR, mDisp, mPairs, o2I, gtI, geI, leI, mStar, mStarT, mStarL, mAugI, mIndex, itemsOf]) (each_ret dR (rws (N := nx W) n j) P2 Q2 (fun pre p post s e1 hs => ?_) _ ⟨a4, a5, rfl, fun p hp => by simp at hp⟩))
        obtain ⟨a4, a5, rfl, hpre⟩ := hs
        have hp : p ∈ rws (N := nx W) n j := by rw [e1]; simp
        obtain ⟨c, hl, hh⟩ := (hmem p).mp hp
        have hpn := hfi p c hh (by omega)
        obtain ⟨l, z, rfl⟩ := snoc_of (l := p) (by intro e; rw [e] at hl; simp at hl)
        have hz : z ∈ kW W := by
          have : ∀ x ∈ l ++ [z], x ∈ kW W := by
            cases e : l ++ [z] with
            | nil => simp at e
            | cons a q =>
              rw [e] at hh c
              have : a = n := by simpa using hh
              subst this
              exact fun x hx => reach_in nx_in hn (reach_ch c hx)
          exact this z (by simp)
        have hnn := next_nodes_ok (T := T) hz (by have := hW.two z; omega) r
        have hnl : (nx W z).length ≤ 2 := Nat.le_trans (nx_len W z) (hW.two z)
        have hprl : (pre.flatMap (exW W n)).length ≤ 2 * pre.length := flat_len (fun p => by unfold exW; rw [List.length_map]; exact Nat.le_trans (nx_len _ _) (hW.two _)) pre
        have hprl2 : pre.length ≤ 64 := by
          have : pre.length ≤ (rws (N := nx W) n j).length := by rw [e1]; simp
          omega
        generalize hFo2 : mFor _ _ _ = Fo2
        simp [fnM, fnR, ent, mSeq, mSet, mV, mC, mOp1, mOp2, mChain, mAnd, mOr, mNot, mIf, mArgs, escAll, esc, soft, pk, hard, put, puts, mHards, mPar, mTup, mLst, mDct0, mCall, mRest, mRt, mRtN, mNx, mEx, mIte, mMut, mPut, mIt, bindT, bindTs, isAtom, isLst, isDK, plainAt, wipeE, backE, mFor, mLc, mDc, mWhile, mBk, mCt, mNo, mSl, mNoP, mPt, mJoin, mRng1, mRng2, mZip, mCallK, pickL, mMeth, mProp, mMake, mFld, fnI, fnIR, mDisp, mPairs, o2I, gtI, geI, leI, mStar, mStarT, mStarL, mAugI, mIndex]
        subst hFo2
        let P3 : List Str → S R → Prop := fun pr s => ∃ (a5 : Option Cell), s = ⟨[some ⟨dW W, false⟩, some ⟨.str n, false⟩, some ⟨.lst ((rws (N := nx W) n j).map dR), false⟩, some ⟨.lst ((pre.flatMap (exW W n) ++ pr.map fun x => l ++ [z] ++ [x]).map dR), true⟩, some ⟨dR (l ++ [z]), false⟩, a5], r⟩ ∧ ∀ x ∈ pr, x ∉ l ++ [z]
        refine (mFor_ev (ds := dS (nx W z)) (s1 := ⟨[some ⟨dW W, false⟩, some ⟨.str n, false⟩, some ⟨.lst ((rws (N := nx W) n j).map dR), false⟩, some ⟨.lst ((pre.flatMap (exW W n)).map dR), true⟩, some ⟨dR (l ++ [z]), false⟩, a5], r⟩) (by simp [fnM, fnR, ent, mSeq, mSet, mV, mC, mOp1, mOp2, mChain, mAnd, mOr, mNot, mIf, mArgs, escAll, esc, soft, pk, hard, put, puts, mHards, mPar, mTup, mLst, mDct0, mCall, mRest, mRt, mRtN, mNx, mEx, mIte, mMut, mPut, mIt, bindT, bindTs, isAtom, isLst, isDK, plainAt, wipeE, backE, mFor, mLc, mDc, mWhile, mBk, mCt, mNo, mSl, mNoP, mPt, mJoin, mRng1, mRng2, mZip, mCallK, pickL, mMeth, mProp, mMake, mFld, fnI, fnIR, mDisp, mPairs, o2I, gtI, geI, leI, mStar, mStarT, mStarL, mAugI, mIndex, neg_one, last_tup, hnn, itemsOf]) (each_ret D.str (nx W z) P3 Q2 (fun pr x po s e2 hs => ?_) _ ⟨a5, by simp, fun x hx => by simp at hx⟩)).mono ?_
        · obtain ⟨a5, rfl, hpr⟩ := hs
          have hx : x ∈ nx W z := by rw [e2]; simp
          have hin := in_dR x (l ++ [z])
          have hsz : (l ++ [z]).length + 1 ≤ sizeLine := by unfold sizeLine; omega
          by_cases hxl : x ∈ l ++ [z]
          · rw [decide_eq_true hxl] at hin
            have hQ : ∀ s : S R, s.r = r → Q2 (.tmp (.lst (dS (l ++ [z]) ++ [.str x]))) s := fun s hs => by
              refine ⟨l ++ [z] ++ [x], by simp [dS], hs, l ++ [z], x, rfl, ?_, hpn, hh, hxl, fun q hq hqh hql => hfi q hq hqh (by omega)⟩
              rw [List.append_assoc]; exact ch_snoc.mpr ⟨c, hx⟩
            have hsq := seq_dR (l ++ [z])
            have hsz2 : (dS (l ++ [z])).length + 1 ≤ sizeLine := by rw [dS_length]; exact hsz
            clear_value Q2 P3
            generalize dR (l ++ [z]) = dd at *
            generalize dS (l ++ [z]) = d3 at *
            generalize (pre.flatMap (exW W n) ++ pr.map fun x => l ++ [z] ++ [x]).map dR = d4 at *
            simp [fnM, fnR, ent, mSeq, mSet, mV, mC, mOp1, mOp2, mChain, mAnd, mOr, mNot, mIf, mArgs, escAll, esc, soft, pk, hard, put, puts, mHards, mPar, mTup, mLst, mDct0, mCall, mRest, mRt, mRtN, mNx, mEx, mIte, mMut, mPut, mIt, bindT, bindTs, isAtom, isLst, isDK, plainAt, wipeE, backE, mFor, mLc, mDc, mWhile, mBk, mCt, mNo, mSl, mNoP, mPt, mJoin, mRng1, mRng2, mZip, mCallK, pickL, mMeth, mProp, mMake, mFld, fnI, fnIR, mDisp, mPairs, o2I, gtI, geI, leI, mStar, mStarT, mStarL, mAugI, mIndex, inD, hin, hsq, hsz2]
            exact hQ _ rfl
          · rw [decide_eq_false hxl] at hin
            have hP : P3 (pr ++ [x]) ⟨[some ⟨dW W, false⟩, some ⟨.str n, false⟩, some ⟨.lst ((rws (N := nx W) n j).map dR), false⟩, some ⟨.lst ((pre.flatMap (exW W n) ++ pr.map fun x => l ++ [z] ++ [x]).map dR ++ [.tup (dS (l ++ [z]) ++ [.str x])]), true⟩, some ⟨dR (l ++ [z]), false⟩, some ⟨.str x, false⟩], r⟩ := by
              refine ⟨some ⟨.str x, false⟩, ?_, fun y hy => ?_⟩
              · simp [dR, dS]
              · rcases List.mem_append.mp hy with hy | hy
                · exact hpr y hy
                · rw [List.mem_singleton.mp hy]; exact hxl
            have hprs : pr.length ≤ 2 := by
              have := congrArg List.length e2
              simp at this; omega
            have hsz4 : ((pre.flatMap (exW W n) ++ pr.map fun x => l ++ [z] ++ [x]).map dR).length < sizeLine := by
              rw [List.length_map, List.length_append, List.length_map]; unfold sizeLine; omega
            have hsq := seq_dR (l ++ [z])
            have hsz2 : (dS (l ++ [z])).length + 1 ≤ sizeLine := by rw [dS_length]; exact hsz
            generalize P3 (pr ++ [x]) = PP at hP
            clear_value Q2
            generalize dR (l ++ [z]) = dd at *
            generalize dS (l ++ [z]) = d3 at *
            generalize (pre.flatMap (exW W n) ++ pr.map fun x => l ++ [z] ++ [x]).map dR = d4 at *
            simp [fnM, fnR, ent, mSeq, mSet, mV, mC, mOp1, mOp2, mChain, mAnd, mOr, mNot, mIf, mArgs, escAll, esc, soft, pk, hard, put, puts, mHards, mPar, mTup, mLst, mDct0, mCall, mRest, mRt, mRtN, mNx, mEx, mIte, mMut, mPut, mIt, bindT, bindTs, isAtom, isLst, isDK, plainAt, wipeE, backE, mFor, mLc, mDc, mWhile, mBk, mCt, mNo, mSl, mNoP, mPt, mJoin, mRng1, mRng2, mZip, mCallK, pickL, mMeth, mProp, mMake, mFld, fnI, fnIR, mDisp, mPairs, o2I, gtI, geI, leI, mStar, mStarT, mStarL, mAugI, mIndex, inD, hin, hsq, hsz2, appL, hsz4, hP]
        · rintro fl s' (⟨rfl, a5, rfl, hpr⟩ | h)
          · refine .inl ⟨rfl, some ⟨dR (l ++ [z]), false⟩, a5, ?_, fun p hp x hx => ?_⟩
            · have : exW W n (l ++ [z]) = (nx W z).map fun x => l ++ [z] ++ [x] := by unfold exW; rw [List.getLastD_concat]
              rw [List.flatMap_append, List.flatMap_cons, List.flatMap_nil, List.append_nil, this]
            · rcases List.mem_append.mp hp with hp | hp
              · exact hpre p hp x hx
              · rw [List.mem_singleton.mp hp] at hx ⊢
                rw [List.getLastD_concat] at hx
                exact hpr x hx
          · exact .inr h
      obtain ⟨fl, s2, e5, hq⟩ := hcut
      rcases hq with ⟨rfl, a4', a5', rfl, hno⟩ | ⟨v, rfl, l, rfl, hr, hlas⟩
      · have hI2 : ∃ k, k < W.length - j ∧ I k ⟨[some ⟨dW W, false⟩, some ⟨.str n, false⟩, some ⟨.lst ((rws (N := nx W) n (j + 1)).map dR), false⟩, some ⟨.lst ((rws (N := nx W) n (j + 1)).map dR), false⟩, a4', a5'], r⟩ := by
          refine ⟨W.length - (j + 1), by omega, j + 1, false, _, _, _, rfl, rfl, hjl, fun q hq hh hl => ?_⟩
          rcases Nat.lt_or_ge q.length (j + 2) with z | z
          · exact hfi q hq hh (by omega)
          · have hq2 := (mem_rws (N := nx W) (n := n) (j + 1) q).mpr ⟨hq, by omega, hh⟩
            rw [hnx, List.mem_flatMap] at hq2
            obtain ⟨p, hp, hpx⟩ := hq2
            unfold exW at hpx
            obtain ⟨x, hx, rfl⟩ := List.mem_map.mp hpx
            obtain ⟨c, hl2, hh2⟩ := (hmem p).mp hp
            exact nodup_snoc.mpr ⟨hfi p c hh2 (by omega), hno p hp x hx⟩
        clear_value I Q
        generalize (rws (N := nx W) n (j + 1)).map dR = l' at *
        generalize (rws (N := nx W) n j).map dR = l at *
        generalize (rws (N := nx W) n j).length = ll at *
        cases b <;> simp [fnM, fnR, ent, mSeq, mSet, mV, mC, mOp1, mOp2, mChain, mAnd, mOr, mNot, mIf, mArgs, escAll, esc, soft, pk, hard, put, puts, mHards, mPar, mTup, mLst, mDct0, mCall, mRest, mRt, mRtN, mNx, mEx, mIte, mMut, mPut, mIt, bindT, bindTs, isAtom, isLst, isDK, plainAt, wipeE, backE, mFor, mLc, mDc, mWhile, mBk, mCt, mNo, mSl, mNoP, mPt, mJoin, mRng1, mRng2, mZip, mCallK, pickL, mMeth, mProp, mMake, mFld, fnI, fnIR, mDisp, mPairs, o2I, gtI, geI, leI, mStar, mStarT, mStarL, mAugI, mIndex, hll, hgt, e5, hI2]
      · have hQ : Q (.rt (.tmp (.lst (dS l)))) s2 := ⟨hr, .inr ⟨l, rfl, hlas⟩⟩
        clear_value I Q
        generalize (rws (N := nx W) n j).map dR = l at *
        generalize (rws (N := nx W) n j).length = ll at *
        cases b <;> simp [fnM, fnR, ent, mSeq, mSet, mV, mC, mOp1, mOp2, mChain, mAnd, mOr, mNot, mIf, mArgs, escAll, esc, soft, pk, hard, put, puts, mHards, mPar, mTup, mLst, mDct0, mCall, mRest, mRt, mRtN, mNx, mEx, mIte, mMut, mPut, mIt, bindT, bindTs, isAtom, isLst, isDK, plainAt, wipeE, backE, mFor, mLc, mDc, mWhile, mBk, mCt, mNo, mSl, mNoP, mPt, mJoin, mRng1, mRng2, mZip, mCallK, pickL, mMeth, mProp, mMake, mFld, fnI, fnIR, mDisp, mPairs, o2I, gtI, geI, leI, mStar, mStarT, mStarL, mAugI, mIndex, hll, hgt, e5, hQ]
  · rintro fl s' ⟨hr, ⟨rfl, hw⟩ | ⟨l, rfl, hlas⟩⟩
    · simp [fnM, fnR, ent, mSeq, mSet, mV, mC, mOp1, mOp2, mChain, mAnd, mOr, mNot, mIf, mArgs, escAll, esc, soft, pk, hard, put, puts, mHards, mPar, mTup, mLst, mDct0, mCall, mRest, mRt, mRtN, mNx, mEx, mIte, mMut, mPut, mIt, bindT, bindTs, isAtom, isLst, isDK, plainAt, wipeE, backE, mFor, mLc, mDc, mWhile, mBk, mCt, mNo, mSl, mNoP, mPt, mJoin, mRng1, mRng2, mZip, mCallK, pickL, mMeth, mProp, mMake, mFld, fnI, fnIR, mDisp, mPairs, o2I, gtI, geI, leI, mStar, mStarT, mStarL, mAugI, mIndex, hr]
      exact ⟨none, rfl, hw⟩
    · simp [fnM, fnR, ent, mSeq, mSet, mV, mC, mOp1, mOp2, mChain, mAnd, mOr, mNot, mIf, mArgs, escAll, esc, soft, pk, hard, put, puts, mHards, mPar, mTup, mLst, mDct0, mCall, mRest, mRt, mRtN, mNx, mEx, mIte, mMut, mPut, mIt, bindT, bindTs, isAtom, isLst, isDK, plainAt, wipeE, backE, mFor, mLc, mDc, mWhile, mBk, mCt, mNo, mSl, mNoP, mPt, mJoin, mRng1, mRng2, mZip, mCallK, pickL, mMeth, mProp, mMake, mFld, fnI, fnIR, mDisp, mPairs, o2I, gtI, geI, leI, mStar, mStarT, mStarL, mAugI, mIndex, hr]
      exact ⟨some l, rfl, hlas⟩
end
end RW
namespace RW
open PySem L2 Gr
/-! ### what is told of a round -/
section
variable {R : Type} {T : Fm R}
theorem need_round_ok {M : Mod} (hM : ModOk M) {ready part : List Str} (hr : RoundOk M ready part) (r : R) : f_need_round T [netD M, .tup (dS ready), .tup (dS part)] r = some (.sh .non, r) := by
  have d2 := hM.d2
  have hl := hr.l
  have q1 := need_net_ok (T := T) M r
  have q2 := need_done_ok (T := T) hM hr.r1 hr.r2 hr.r3 r
  have q3 := is_lot_ok (T := T) hM hr.p1 hr.p2 hr.p3 r
  unfold f_need_round m_need_round
  generalize hL : mLc _ _ _ _ _ = L
  have eL : L ⟨[some ⟨netD M, false⟩, some ⟨.tup (dS ready), false⟩, some ⟨.tup (dS part), false⟩, none], r⟩ = some (.tmp (.lst (part.map fun _ => .bl false)), ⟨[some ⟨netD M, false⟩, some ⟨.tup (dS ready), false⟩, some ⟨.tup (dS part), false⟩, none], r⟩) := by
    rw [← hL]
    refine mLc_all D.str (fun _ => .bl false) part ?_ (by rfl) (fun y hy => ?_) (by unfold sizeLine; omega)
    · simp [fnM, fnR, ent, mSeq, mSet, mV, mC, mOp1, mOp2, mChain, mAnd, mOr, mNot, mIf, mArgs, escAll, esc, soft, pk, hard, put, puts, mHards, mPar, mTup, mLst, mDct0, mCall, mRest, mRt, mRtN, mNx, mEx, mIte, mMut, mPut, mIt, bindT, bindTs, isAtom, isLst, isDK, plainAt, wipeE, backE, mFor, mLc, mDc, mWhile, mBk, mCt, mNo, mSl, mNoP, mPt, mJoin, mRng1, mRng2, mZip, mCallK, pickL, mMeth, mProp, mMake, mFld, fnI, fnIR, mDisp, mPairs, o2I, gtI, geI, leI, mStar, mStarT, mStarL, mAugI, mIndex, itemsOf, dS]
    · simp [fnM, fnR, ent, mSeq, mSet, mV, mC, mOp1, mOp2, mChain, mAnd, mOr, mNot, mIf, mArgs, escAll, esc, soft, pk, hard, put, puts, mHards, mPar, mTup, mLst, mDct0, mCall, mRest, mRt, mRtN, mNx, mEx, mIte, mMut, mPut, mIt, bindT, bindTs, isAtom, isLst, isDK, plainAt, wipeE, backE, mFor, mLc, mDc, mWhile, mBk, mCt, mNo, mSl, mNoP, mPt, mJoin, mRng1, mRng2, mZip, mCallK, pickL, mMeth, mProp, mMake, mFld, fnI, fnIR, mDisp, mPairs, o2I, gtI, geI, leI, mStar, mStarT, mStarL, mAugI, mIndex, inD, in_tup, hr.d y hy]
  have hany : anyD (.lst (part.map fun _ => .bl false)) = some (.sh (.bl false)) := by
    have := any_bl (part.map fun _ => false)
    rw [List.map_map] at this
    have e : (part.map fun _ => false).any id = false := by simp
    rw [e] at this
    exact this
  simp [fnM, fnR, ent, mSeq, mSet, mV, mC, mOp1, mOp2, mChain, mAnd, mOr, mNot, mIf, mArgs, escAll, esc, soft, pk, hard, put, puts, mHards, mPar, mTup, mLst, mDct0, mCall, mRest, mRt, mRtN, mNx, mEx, mIte, mMut, mPut, mIt, bindT, bindTs, isAtom, isLst, isDK, plainAt, wipeE, backE, mFor, mLc, mDc, mWhile, mBk, mCt, mNo, mSl, mNoP, mPt, mJoin, mRng1, mRng2, mZip, mCallK, pickL, mMeth, mProp, mMake, mFld, fnI, fnIR, mDisp, mPairs, o2I, gtI, geI, leI, mStar, mStarT, mStarL, mAugI, mIndex, q1, q2, q3, eL, hany]
variable {M : Mod} (hM : ModOk M) {ready part : List Str} (hr : RoundOk M ready part) {e : Str} {p : Tab × Tab} (hp : (e, p) ∈ M.rows)
include hM hr hp
theorem ways_ok (r : R) : f_ways T [netD M, .tup (dS ready), .tup (dS part), .str e] r = some (.tmp (dW (webOf M.dots p ready part)), r) := by
  have q1 := need_round_ok (T := T) hM hr r
  have q4 := need_goal_ok (T := T) (M := M) (x := e) (List.mem_map.mpr ⟨_, hp, rfl⟩) r
  have q6 := mixture_ok (T := T) hM hp ready part r
  unfold f_ways m_ways
  simp [fnM, fnR, ent, mSeq, mSet, mV, mC, mOp1, mOp2, mChain, mAnd, mOr, mNot, mIf, mArgs, escAll, esc, soft, pk, hard, put, puts, mHards, mPar, mTup, mLst, mDct0, mCall, mRest, mRt, mRtN, mNx, mEx, mIte, mMut, mPut, mIt, bindT, bindTs, isAtom, isLst, isDK, plainAt, wipeE, backE, mFor, mLc, mDc, mWhile, mBk, mCt, mNo, mSl, mNoP, mPt, mJoin, mRng1, mRng2, mZip, mCallK, pickL, mMeth, mProp, mMake, mFld, fnI, fnIR, mDisp, mPairs, o2I, gtI, geI, leI, mStar, mStarT, mStarL, mAugI, mIndex, List.replicate, q1, q4, q6]
theorem ring_ok (r : R) : ∃ o, f_ring T [netD M, .tup (dS ready), .tup (dS part), .str e] r = some (.sh (dOR o), r) ∧ BestR (webOf M.dots p ready part) o := by
  have q1 := need_round_ok (T := T) hM hr r
  have q4 := need_goal_ok (T := T) (M := M) (x := e) (List.mem_map.mpr ⟨_, hp, rfl⟩) r
  have q6 := mixture_ok (T := T) hM hp ready part r
  obtain ⟨o, q7, hb⟩ := ring_in_ok (T := T) (webOk hM hp ready part) (by have := hM.d2; omega) r
  refine ⟨o, ?_, hb⟩
  unfold f_ring m_ring
  cases o <;> (simp only [dOR, dR] at q7 ⊢; simp [fnM, fnR, ent, mSeq, mSet, mV, mC, mOp1, mOp2, mChain, mAnd, mOr, mNot, mIf, mArgs, escAll, esc, soft, pk, hard, put, puts, mHards, mPar, mTup, mLst, mDct0, mCall, mRest, mRt, mRtN, mNx, mEx, mIte, mMut, mPut, mIt, bindT, bindTs, isAtom, isLst, isDK, plainAt, wipeE, backE, mFor, mLc, mDc, mWhile, mBk, mCt, mNo, mSl, mNoP, mPt, mJoin, mRng1, mRng2, mZip, mCallK, pickL, mMeth, mProp, mMake, mFld, fnI, fnIR, mDisp, mPairs, o2I, gtI, geI, leI, mStar, mStarT, mStarL, mAugI, mIndex, List.replicate, q1, q4, q6, q7])
theorem ranks_ok (r : R) : f_ranks T [netD M, .tup (dS ready), .tup (dS part), .str e] r = some (vRk (rkW (webOf M.dots p ready part)), r) := by
  have q1 := need_round_ok (T := T) hM hr r
  have q4 := need_goal_ok (T := T) (M := M) (x := e) (List.mem_map.mpr ⟨_, hp, rfl⟩) r
  have q6 := mixture_ok (T := T) hM hp ready part r
  have q7 := ranks_in_ok (T := T) (webOk hM hp ready part) (by have := hM.d2; omega) r
  unfold f_ranks m_ranks
  cases hk : rkW (webOf M.dots p ready part) <;> (rw [hk] at q7; simp [vRk] at q7; simp [fnM, fnR, ent, mSeq, mSet, mV, mC, mOp1, mOp2, mChain, mAnd, mOr, mNot, mIf, mArgs, escAll, esc, soft, pk, hard, put, puts, mHards, mPar, mTup, mLst, mDct0, mCall, mRest, mRt, mRtN, mNx, mEx, mIte, mMut, mPut, mIt, bindT, bindTs, isAtom, isLst, isDK, plainAt, wipeE, backE, mFor, mLc, mDc, mWhile, mBk, mCt, mNo, mSl, mNoP, mPt, mJoin, mRng1, mRng2, mZip, mCallK, pickL, mMeth, mProp, mMake, mFld, fnI, fnIR, mDisp, mPairs, o2I, gtI, geI, leI, mStar, mStarT, mStarL, mAugI, mIndex, List.replicate, q1, q4, q6, q7, vRk])
/-- does some way of these nodes lead to a place -/
def anyTo (W : Web) (l : List Str) (o : Option Str) : Bool := l.any fun x => decide (o ∈ plW W x)
omit hM hr hp in
theorem any_to (W : Web) (l : List Str) (o : Option Str) : anyD (.lst (l.map fun x => .bl (decide (o ∈ plW W x)))) = some (.sh (.bl (anyTo W l o))) := by
  have := any_bl (l.map fun x => decide (o ∈ plW W x))
  rw [List.map_map] at this
  rw [show anyTo W l o = (l.map fun x => decide (o ∈ plW W x)).any id by unfold anyTo; rw [List.any_map]; rfl]
  exact this
theorem reached_ok {x : Str} (hx : x ∈ M.dots) (r : R) : ∃ l, f_reached T [netD M, .tup (dS ready), .tup (dS part), .str e, .str x] r = some (.sh (.tup [.tup (dS (sortS l)), .bl (anyTo (webOf M.dots p ready part) l (some e)), .bl (anyTo (webOf M.dots p ready part) l none)]), r) ∧ ReI (webOf M.dots p ready part) x l ∧ ∀ y, y ∈ l ↔ Reach (nx (webOf M.dots p ready part)) x y := by
  have d2 := hM.d2
  have q1 := need_round_ok (T := T) hM hr r
  have q4 := need_goal_ok (T := T) (M := M) (x := e) (List.mem_map.mpr ⟨_, hp, rfl⟩) r
  have q5 := need_node_ok (T := T) (M := M) hx r
  have q6 := mixture_ok (T := T) hM hp ready part r
  have hW := webOk hM hp ready part
  have hxW : x ∈ kW (webOf M.dots p ready part) := by rw [kW_web]; exact hx
  generalize webOf M.dots p ready part = W at *
  obtain ⟨l, q7, hI, hre⟩ := reached_in_ok (T := T) hW (by omega) hxW r
  refine ⟨l, ?_, hI, hre⟩
  have hl := hI.len
  have hwl := hW.len
  unfold f_reached m_reached
  generalize hL1 : mLc [7] _ _ _ (mOp2 inD (mV 3) _) = L1
  generalize hL2 : mLc [7] _ _ _ (mOp2 inD (mC .non) _) = L2
  have eL1 : ∀ b, L1 ⟨[some ⟨netD M, false⟩, some ⟨.tup (dS ready), false⟩, some ⟨.tup (dS part), false⟩, some ⟨.str e, false⟩, some ⟨.str x, false⟩, some ⟨dW W, false⟩, some ⟨.lst (dS l), b⟩, none], r⟩ = some (.tmp (.lst (l.map fun x => .bl (decide (some e ∈ plW W x)))), ⟨[some ⟨netD M, false⟩, some ⟨.tup (dS ready), false⟩, some ⟨.tup (dS part), false⟩, some ⟨.str e, false⟩, some ⟨.str x, false⟩, some ⟨dW W, false⟩, some ⟨.lst (dS l), false⟩, none], r⟩) := by
    intro b
    rw [← hL1]
    refine mLc_all D.str (fun x => .bl (decide (some e ∈ plW W x))) l ?_ (by rfl) (fun y hy => ?_) (by unfold sizeLine; omega)
    · cases b <;> simp [fnM, fnR, ent, mSeq, mSet, mV, mC, mOp1, mOp2, mChain, mAnd, mOr, mNot, mIf, mArgs, escAll, esc, soft, pk, hard, put, puts, mHards, mPar, mTup, mLst, mDct0, mCall, mRest, mRt, mRtN, mNx, mEx, mIte, mMut, mPut, mIt, bindT, bindTs, isAtom, isLst, isDK, plainAt, wipeE, backE, mFor, mLc, mDc, mWhile, mBk, mCt, mNo, mSl, mNoP, mPt, mJoin, mRng1, mRng2, mZip, mCallK, pickL, mMeth, mProp, mMake, mFld, fnI, fnIR, mDisp, mPairs, o2I, gtI, geI, leI, mStar, mStarT, mStarL, mAugI, mIndex, itemsOf, dS]
    · have hin := in_lstO (some e) (plW W y)
      have hin : inB (.str e) (dPl (plW W y)) = some (decide (some e ∈ plW W y)) := hin
      simp [fnM, fnR, ent, mSeq, mSet, mV, mC, mOp1, mOp2, mChain, mAnd, mOr, mNot, mIf, mArgs, escAll, esc, soft, pk, hard, put, puts, mHards, mPar, mTup, mLst, mDct0, mCall, mRest, mRt, mRtN, mNx, mEx, mIte, mMut, mPut, mIt, bindT, bindTs, isAtom, isLst, isDK, plainAt, wipeE, backE, mFor, mLc, mDc, mWhile, mBk, mCt, mNo, mSl, mNoP, mPt, mJoin, mRng1, mRng2, mZip, mCallK, pickL, mMeth, mProp, mMake, mFld, fnI, fnIR, mDisp, mPairs, o2I, gtI, geI, leI, mStar, mStarT, mStarL, mAugI, mIndex, idx_dT dPl (look_W (hI.sub y hy)), inD, hin]
  have eL2 : ∀ b, L2 ⟨[some ⟨netD M, false⟩, some ⟨.tup (dS ready), false⟩, some ⟨.tup (dS part), false⟩, some ⟨.str e, false⟩, some ⟨.str x, false⟩, some ⟨dW W, false⟩, some ⟨.lst (dS l), b⟩, none], r⟩ = some (.tmp (.lst (l.map fun x => .bl (decide (none ∈ plW W x)))), ⟨[some ⟨netD M, false⟩, some ⟨.tup (dS ready), false⟩, some ⟨.tup (dS part), false⟩, some ⟨.str e, false⟩, some ⟨.str x, false⟩, some ⟨dW W, false⟩, some ⟨.lst (dS l), false⟩, none], r⟩) := by
    intro b
    rw [← hL2]
    refine mLc_all D.str (fun x => .bl (decide (none ∈ plW W x))) l ?_ (by rfl) (fun y hy => ?_) (by unfold sizeLine; omega)
    · cases b <;> simp [fnM, fnR, ent, mSeq, mSet, mV, mC, mOp1, mOp2, mChain, mAnd, mOr, mNot, mIf, mArgs, escAll, esc, soft, pk, hard, put, puts, mHards, mPar, mTup, mLst, mDct0, mCall, mRest, mRt, mRtN, mNx, mEx, mIte, mMut, mPut, mIt, bindT, bindTs, isAtom, isLst, isDK, plainAt, wipeE, backE, mFor, mLc, mDc, mWhile, mBk, mCt, mNo, mSl, mNoP, mPt, mJoin, mRng1, mRng2, mZip, mCallK, pickL, mMeth, mProp, mMake, mFld, fnI, fnIR, mDisp, mPairs, o2I, gtI, geI, leI, mStar, mStarT, mStarL, mAugI, mIndex, itemsOf, dS]
    · have hin := in_lstO none (plW W y)
      have hin : inB .non (dPl (plW W y)) = some (decide (none ∈ plW W y)) := hin
      simp [fnM, fnR, ent, mSeq, mSet, mV, mC, mOp1, mOp2, mChain, mAnd, mOr, mNot, mIf, mArgs, escAll, esc, soft, pk, hard, put, puts, mHards, mPar, mTup, mLst, mDct0, mCall, mRest, mRt, mRtN, mNx, mEx, mIte, mMut, mPut, mIt, bindT, bindTs, isAtom, isLst, isDK, plainAt, wipeE, backE, mFor, mLc, mDc, mWhile, mBk, mCt, mNo, mSl, mNoP, mPt, mJoin, mRng1, mRng2, mZip, mCallK, pickL, mMeth, mProp, mMake, mFld, fnI, fnIR, mDisp, mPairs, o2I, gtI, geI, leI, mStar, mStarT, mStarL, mAugI, mIndex, idx_dT dPl (look_W (hI.sub y hy)), inD, hin]
  have a1 := any_to W l (some e)
  have a2 := any_to W l none
  have hso := sort_dS (xs := l) (by omega)
  generalize (l.map fun x => D.bl (decide (some e ∈ plW W x))) = z1 at *
  generalize (l.map fun x => D.bl (decide (none ∈ plW W x))) = z2 at *
  generalize anyTo W l (some e) = y1 at *
  generalize anyTo W l none = y2 at *
  generalize sortS l = sl at *
  simp [fnM, fnR, ent, mSeq, mSet, mV, mC, mOp1, mOp2, mChain, mAnd, mOr, mNot, mIf, mArgs, escAll, esc, soft, pk, hard, put, puts, mHards, mPar, mTup, mLst, mDct0, mCall, mRest, mRt, mRtN, mNx, mEx, mIte, mMut, mPut, mIt, bindT, bindTs, isAtom, isLst, isDK, plainAt, wipeE, backE, mFor, mLc, mDc, mWhile, mBk, mCt, mNo, mSl, mNoP, mPt, mJoin, mRng1, mRng2, mZip, mCallK, pickL, mMeth, mProp, mMake, mFld, fnI, fnIR, mDisp, mPairs, o2I, gtI, geI, leI, mStar, mStarT, mStarL, mAugI, mIndex, List.replicate, q1, q4, q5, q6, q7, hso, tup1, eL1, eL2, a1, a2]
end
/-! ### the moment of a row -/
def momP (t : Tab) (lot places : List Str) : List Str := lot.filter fun x => decide (x ∈ places.dropLast) && decide (look t x = places[places.idxOf x + 1]?)
section
variable {R : Type} {T : Fm R}
theorem index_dS {l : List Str} {x : Str} (h : x ∈ l) : indexD (.lst (dS l)) (.str x) = some (.sh (.int (l.idxOf x : Nat))) := by
  have : ∀ l : List Str, x ∈ l → idxOfS x l = some (l.idxOf x) := by
    intro l
    induction l with
    | nil => exact fun h => by cases h
    | cons y l ih =>
      intro h
      unfold idxOfS
      rw [List.idxOf_cons]
      by_cases e : y = x
      · subst e; simp
      · have : (y == x) = false := by simpa using e
        have h := (List.mem_cons.mp h).resolve_left fun z => e z.symm
        simp [this, e, ih h]
  show (strsOf (dS l)).bind _ = _
  rw [strsOf_dS]
  simp [this l h]
theorem moment_of_ok {M : Mod} (hM : ModOk M) {e : Str} {p : Tab × Tab} (hp : (e, p) ∈ M.rows) {lot places : List Str} (hl : ∀ x ∈ lot, x ∈ M.dots) (hll : lot.length ≤ 100) (hpl : places.length ≤ 100) (hne : places ≠ []) (r : R) :
    f_moment_of T [netD M, .tup (dS lot), .str e, .lst (dS places)] r = some (.sh (.tup (dS (momP p.2 lot places))), r) := by
  have hi : idxD (dT dP (ordR M)) (.str e) = some (.sh (.tup [dT dO (ordT M.dots p.1), dT dO (ordT M.dots p.2)])) := idx_dT dP (ordR_look hM hp)
  unfold f_moment_of m_moment_of
  generalize hL : mLc _ _ _ _ _ = L
  have eL : L ⟨[some ⟨netD M, false⟩, some ⟨.tup (dS lot), false⟩, some ⟨.str e, false⟩, some ⟨.lst (dS places), false⟩, some ⟨dT dO (ordT M.dots p.2), false⟩, none], r⟩ = some (.tmp (.lst (dS (momP p.2 lot places))), ⟨[some ⟨netD M, false⟩, some ⟨.tup (dS lot), false⟩, some ⟨.str e, false⟩, some ⟨.lst (dS places), false⟩, some ⟨dT dO (ordT M.dots p.2), false⟩, none], r⟩) := by
    rw [← hL]
    refine mLc_enc D.str (fun x => decide (x ∈ places.dropLast) && decide (look p.2 x = places[places.idxOf x + 1]?)) D.str lot ?_ (by rfl) (fun x hx => ?_) (by unfold sizeLine; omega)
    · simp [fnM, fnR, ent, mSeq, mSet, mV, mC, mOp1, mOp2, mChain, mAnd, mOr, mNot, mIf, mArgs, escAll, esc, soft, pk, hard, put, puts, mHards, mPar, mTup, mLst, mDct0, mCall, mRest, mRt, mRtN, mNx, mEx, mIte, mMut, mPut, mIt, bindT, bindTs, isAtom, isLst, isDK, plainAt, wipeE, backE, mFor, mLc, mDc, mWhile, mBk, mCt, mNo, mSl, mNoP, mPt, mJoin, mRng1, mRng2, mZip, mCallK, pickL, mMeth, mProp, mMake, mFld, fnI, fnIR, mDisp, mPairs, o2I, gtI, geI, leI, mStar, mStarT, mStarL, mAugI, mIndex, itemsOf, dS]
    · have o2 := idx_dT dO (ordT_look (t := p.2) (hl x hx))
      obtain ⟨ps, z, rfl⟩ := snoc_of hne
      have hcut : cutL (dS (ps ++ [z])) none (some (-1)) = dS ps := by
        unfold dS; rw [List.map_append]; exact cut_last _ _
      have hin := in_lst x ps
      by_cases hxp : x ∈ ps
      · have hix := index_dS (l := ps ++ [z]) (x := x) (by simp [hxp])
        have hlt : (ps ++ [z]).idxOf x < ps.length := by
          rw [List.idxOf_append, if_pos hxp]
          exact List.idxOf_lt_length_of_mem hxp
        rw [decide_eq_true hxp] at hin
        generalize hpz : ps ++ [z] = pz at *
        have hdl : pz.dropLast = ps := by rw [← hpz]; simp
        have hpl2 : pz.length = ps.length + 1 := by rw [← hpz]; simp
        generalize hj : pz.idxOf x = j at *
        have hg : pz[j + 1]? = some pz[j + 1] := List.getElem?_eq_getElem (by omega)
        generalize pz[j + 1] = w at hg
        have hix2 : idxD (.lst (dS pz)) (.int ((j : Int) + 1)) = some (.sh (.str w)) := by
          have : atI (dS pz) ((j + 1 : Nat) : Int) = some (.str w) := by
            rw [atI_nat' (by rw [dS_length]; omega)]
            have : (dS pz)[j + 1]? = some (.str w) := by unfold dS; rw [List.getElem?_map, hg]; rfl
            rw [List.getElem?_eq_getElem (by rw [dS_length]; omega)] at this
            exact this
          have : atI (dS pz) ((j : Int) + 1) = some (.str w) := this
          simp [idxD, idxS, this]
        have hadd : addD (.int (j : Int)) (.int 1) = some (.sh (.int ((j : Int) + 1))) := rfl
        have heq := eq_dO (look p.2 x) (some w)
        have heq : eqD (dO (look p.2 x)) (.str w) = some (.sh (.bl (decide (look p.2 x = some w)))) := heq
        rw [hg, hdl]
        simp [fnM, fnR, ent, mSeq, mSet, mV, mC, mOp1, mOp2, mChain, mAnd, mOr, mNot, mIf, mArgs, escAll, esc, soft, pk, hard, put, puts, mHards, mPar, mTup, mLst, mDct0, mCall, mRest, mRt, mRtN, mNx, mEx, mIte, mMut, mPut, mIt, bindT, bindTs, isAtom, isLst, isDK, plainAt, wipeE, backE, mFor, mLc, mDc, mWhile, mBk, mCt, mNo, mSl, mNoP, mPt, mJoin, mRng1, mRng2, mZip, mCallK, pickL, mMeth, mProp, mMake, mFld, fnI, fnIR, mDisp, mPairs, o2I, gtI, geI, leI, mStar, mStarT, mStarL, mAugI, mIndex, neg_one, cutD, hcut, inD, hin, o2, hix, hadd, hix2, heq, hxp]
      · rw [decide_eq_false hxp] at hin
        generalize hpz : ps ++ [z] = pz at *
        have hdl : pz.dropLast = ps := by rw [← hpz]; simp
        rw [hdl]
        simp [fnM, fnR, ent, mSeq, mSet, mV, mC, mOp1, mOp2, mChain, mAnd, mOr, mNot, mIf, mArgs, escAll, esc, soft, pk, hard, put, puts, mHards, mPar, mTup, mLst, mDct0, mCall, mRest, mRt, mRtN, mNx, mEx, mIte, mMut, mPut, mIt, bindT, bindTs, isAtom, isLst, isDK, plainAt, wipeE, backE, mFor, mLc, mDc, mWhile, mBk, mCt, mNo, mSl, mNoP, mPt, mJoin, mRng1, mRng2, mZip, mCallK, pickL, mMeth, mProp, mMake, mFld, fnI, fnIR, mDisp, mPairs, o2I, gtI, geI, leI, mStar, mStarT, mStarL, mAugI, mIndex, neg_one, cutD, hcut, inD, hin, hxp]
  simp [fnM, fnR, ent, mSeq, mSet, mV, mC, mOp1, mOp2, mChain, mAnd, mOr, mNot, mIf, mArgs, escAll, esc, soft, pk, hard, put, puts, mHards, mPar, mTup, mLst, mDct0, mCall, mRest, mRt, mRtN, mNx, mEx, mIte, mMut, mPut, mIt, bindT, bindTs, isAtom, isLst, isDK, plainAt, wipeE, backE, mFor, mLc, mDc, mWhile, mBk, mCt, mNo, mSl, mNoP, mPt, mJoin, mRng1, mRng2, mZip, mCallK, pickL, mMeth, mProp, mMake, mFld, fnI, fnIR, mDisp, mPairs, o2I, gtI, geI, leI, mStar, mStarT, mStarL, mAugI, mIndex, List.replicate, fld1, hi, idx_tup2_1, eL, tup1]
/-- twice: None exactly if the steps from the node end -/
theorem twice_ok {M : Mod} (hM : ModOk M) {ready part : List Str} (hr : RoundOk M ready part) {e : Str} {p : Tab × Tab} (hp : (e, p) ∈ M.rows) {x : Str} (hx : x ∈ M.dots) (r : R) :
    ∃ o, f_twice T [netD M, .tup (dS ready), .tup (dS part), .str e, .str x] r = some ((match o with | none => .sh .non | some l => .tmp (.lst (l.map fun y => .tup [.str y, .tup (dS (momP p.2 part l))]))), r) ∧ Las (webOf M.dots p ready part) x o := by
  have d2 := hM.d2
  have hl := hr.l
  have q1 := need_round_ok (T := T) hM hr r
  have q4 := need_goal_ok (T := T) (M := M) (x := e) (List.mem_map.mpr ⟨_, hp, rfl⟩) r
  have q5 := need_node_ok (T := T) (M := M) hx r
  have q6 := mixture_ok (T := T) hM hp ready part r
  have hW := webOk hM hp ready part
  have hxW : x ∈ kW (webOf M.dots p ready part) := by rw [kW_web]; exact hx
  have hwk : kW (webOf M.dots p ready part) = M.dots := kW_web _ _ _ _
  generalize webOf M.dots p ready part = W at *
  obtain ⟨o, q7, hlas⟩ := lasso_ok (T := T) hW (by omega) hxW r
  refine ⟨o, ?_, hlas⟩
  unfold f_twice m_twice
  generalize hL : mLc _ _ _ _ _ = L
  cases o with
  | none =>
    have q7 : f_lasso_from T [dW W, .str x] r = some (.sh .non, r) := q7
    simp [fnM, fnR, ent, mSeq, mSet, mV, mC, mOp1, mOp2, mChain, mAnd, mOr, mNot, mIf, mArgs, escAll, esc, soft, pk, hard, put, puts, mHards, mPar, mTup, mLst, mDct0, mCall, mRest, mRt, mRtN, mNx, mEx, mIte, mMut, mPut, mIt, bindT, bindTs, isAtom, isLst, isDK, plainAt, wipeE, backE, mFor, mLc, mDc, mWhile, mBk, mCt, mNo, mSl, mNoP, mPt, mJoin, mRng1, mRng2, mZip, mCallK, pickL, mMeth, mProp, mMake, mFld, fnI, fnIR, mDisp, mPairs, o2I, gtI, geI, leI, mStar, mStarT, mStarL, mAugI, mIndex, List.replicate, q1, q4, q5, q6, q7, isN]
  | some l =>
    have q7 : f_lasso_from T [dW W, .str x] r = some (.tmp (.lst (dS l)), r) := q7
    obtain ⟨ps, z, rfl, hc, hnd, hh, hz, _⟩ := hlas
    have hsub : ∀ y ∈ ps, y ∈ kW W := by
      match ps, hh, hc with
      | a :: ps, hh, hc =>
        have : a = x := by simpa using hh
        subst this
        exact fun y hy => reach_in nx_in hxW (reach_ch (ch_app_left hc) hy)
    have hpl := nodup_len hnd hsub
    rw [hwk] at hpl
    have q8 := moment_of_ok (T := T) hM hp (lot := part) (places := ps ++ [z]) (fun y hy => (List.mem_filter.mp (hr.p3 y hy)).1) (by omega) (by simp; omega) (by simp) r
    have hll : (ps ++ [z]).length ≤ 7 := by simp; omega
    generalize ps ++ [z] = l at *
    have eL : ∀ b, L ⟨[some ⟨netD M, false⟩, some ⟨.tup (dS ready), false⟩, some ⟨.tup (dS part), false⟩, some ⟨.str e, false⟩, some ⟨.str x, false⟩, some ⟨.lst (dS l), b⟩, some ⟨.tup (dS (momP p.2 part l)), false⟩, none], r⟩ = some (.tmp (.lst (l.map fun y => .tup [.str y, .tup (dS (momP p.2 part l))])), ⟨[some ⟨netD M, false⟩, some ⟨.tup (dS ready), false⟩, some ⟨.tup (dS part), false⟩, some ⟨.str e, false⟩, some ⟨.str x, false⟩, some ⟨.lst (dS l), false⟩, some ⟨.tup (dS (momP p.2 part l)), false⟩, none], r⟩) := by
      intro b
      rw [← hL]
      refine mLc_all D.str (fun y => .tup [.str y, .tup (dS (momP p.2 part l))]) l ?_ (by rfl) (fun y hy => ?_) (by unfold sizeLine; omega)
      · cases b <;> simp [fnM, fnR, ent, mSeq, mSet, mV, mC, mOp1, mOp2, mChain, mAnd, mOr, mNot, mIf, mArgs, escAll, esc, soft, pk, hard, put, puts, mHards, mPar, mTup, mLst, mDct0, mCall, mRest, mRt, mRtN, mNx, mEx, mIte, mMut, mPut, mIt, bindT, bindTs, isAtom, isLst, isDK, plainAt, wipeE, backE, mFor, mLc, mDc, mWhile, mBk, mCt, mNo, mSl, mNoP, mPt, mJoin, mRng1, mRng2, mZip, mCallK, pickL, mMeth, mProp, mMake, mFld, fnI, fnIR, mDisp, mPairs, o2I, gtI, geI, leI, mStar, mStarT, mStarL, mAugI, mIndex, itemsOf, dS]
      · simp [fnM, fnR, ent, mSeq, mSet, mV, mC, mOp1, mOp2, mChain, mAnd, mOr, mNot, mIf, mArgs, escAll, esc, soft, pk, hard, put, puts, mHards, mPar, mTup, mLst, mDct0, mCall, mRest, mRt, mRtN, mNx, mEx, mIte, mMut, mPut, mIt, bindT, bindTs, isAtom, isLst, isDK, plainAt, wipeE, backE, mFor, mLc, mDc, mWhile, mBk, mCt, mNo, mSl, mNoP, mPt, mJoin, mRng1, mRng2, mZip, mCallK, pickL, mMeth, mProp, mMake, mFld, fnI, fnIR, mDisp, mPairs, o2I, gtI, geI, leI, mStar, mStarT, mStarL, mAugI, mIndex]
    simp [fnM, fnR, ent, mSeq, mSet, mV, mC, mOp1, mOp2, mChain, mAnd, mOr, mNot, mIf, mArgs, escAll, esc, soft, pk, hard, put, puts, mHards, mPar, mTup, mLst, mDct0, mCall, mRest, mRt, mRtN, mNx, mEx, mIte, mMut, mPut, mIt, bindT, bindTs, isAtom, isLst, isDK, plainAt, wipeE, backE, mFor, mLc, mDc, mWhile, mBk, mCt, mNo, mSl, mNoP, mPt, mJoin, mRng1, mRng2, mZip, mCallK, pickL, mMeth, mProp, mMake, mFld, fnI, fnIR, mDisp, mPairs, o2I, gtI, geI, leI, mStar, mStarT, mStarL, mAugI, mIndex, List.replicate, q1, q4, q5, q6, q7, isN, q8, eL]
end
end RW
namespace Gr
/-! rows of numbers that differ by one from each to the next -/
end Gr
namespace RW
open PySem L2 Gr
theorem le_of_lt {a b : Str} (h : ltS a b) : leS a b = true := by
  cases hl : leS a b with
  | true => rfl
  | false =>
    have h2 := leS_total a b
    rw [hl, Bool.false_or] at h2
    by_cases e : b = a
    · subst e; exact absurd h (ltS_lin.irr _)
    · have := lt_of_le h2 e
      exact absurd (ltS_lin.tr h this) (ltS_lin.irr _)
theorem sort_two {a b : Str} (h : ltS a b) : sortS [a, b] = [a, b] ∧ sortS [b, a] = [a, b] := by
  have h1 : sortS [a, b] = [a, b] := sortS_self (by simp; exact le_of_lt h)
  exact ⟨h1, by rw [← h1]; rw [h1]; rw [← h1]; exact sortS_of_perm (List.Perm.swap ..)⟩
end RW
namespace RW
open PySem L2 Gr
/-! ### rows in order -/
theorem deq_dR (p q : List Str) : deqF 60 (dR p) (dR q) = some (decide (p = q)) := by
  have key : ∀ p q : List Str, deqL (deqF 59) (dS p) (dS q) = some (decide (p.take q.length = q.take p.length)) := by
    intro p
    induction p with
    | nil => intro q; simp [dS, deqL]
    | cons x p ih =>
      intro q
      cases q with
      | nil => simp [dS, deqL]
      | cons y q =>
        have := ih q
        unfold dS at this ⊢
        rw [List.map_cons, List.map_cons, deqL, this]
        have hd : deqF 59 (.str x) (.str y) = some (decide (x = y)) := by simp [deqF, toV, eqV, str_beq]
        rw [hd]
        by_cases e : x = y <;> simp [e]
  show (deqL (deqF 59) (dS p) (dS q)).map (fun r => r && decide ((dS p).length = (dS q).length)) = _
  rw [key, dS_length, dS_length]
  simp only [Option.map_some]
  congr 1
  by_cases hl : p.length = q.length
  · rw [decide_eq_true hl, Bool.and_true]
    apply decide_eq_decide.mpr
    rw [← hl, List.take_length, hl, List.take_length]
  · rw [decide_eq_false hl, Bool.and_false, decide_eq_false fun e => hl (by rw [e])]
theorem ne_dOR (o : Option (List Str)) : neD (dOR o) (dOR o) = some (.sh (.bl false)) := by
  cases o with
  | none => rfl
  | some p => simp [neD, dOR, deq_dR]
/-! ### rings and steps -/
theorem rk_none {W : Web} (o : Option (List Str)) (hb : BestR W o) : (rkW W).isNone = o.isSome := by
  have hkl : (kW W).length = W.length := by unfold kW; rw [List.length_map]
  unfold rkW
  cases o with
  | none =>
    have : (kW W).all (fun x => !wk (nx W) W.length x) = true := by
      rw [List.all_eq_true]
      intro x hx
      cases hw : wk (nx W) W.length x with
      | false => rfl
      | true =>
        rw [← hkl] at hw
        obtain ⟨p, a, h1, h2, _⟩ := (ring_reached ltS_lin nx_in hx).mp hw
        exact absurd ⟨h1, h2⟩ (hb p)
    rw [if_pos this]; rfl
  | some p =>
    obtain ⟨a, l, ea, _⟩ := hb.1.1.least
    have ha : a ∈ kW W := hb.1.2 a (by rw [ea]; exact List.mem_cons_self)
    have hw : wk (nx W) W.length a = true := by
      rw [← hkl]
      exact (ring_reached ltS_lin nx_in ha).mpr ⟨p, a, hb.1.1, hb.1.2, by rw [ea]; rfl, Reach.refl⟩
    rw [if_neg]
    · rfl
    · intro z
      rw [List.all_eq_true] at z
      have := z a ha
      rw [hw] at this; cases this
end RW
namespace RW
open PySem L2 Gr
/-! ### the turned net -/
/-! ### webs alike -/
structure Alike (W W' : Web) : Prop where
  k : kW W' = kW W
  n : ∀ x y, y ∈ nx W' x ↔ y ∈ nx W x
theorem Alike.len {W W' : Web} (h : Alike W W') : W'.length = W.length := by
  have := congrArg List.length h.k
  unfold kW at this
  rw [List.length_map, List.length_map] at this
  exact this
end RW
namespace RW
open PySem L2 Gr
/-! ### a dict is equal to itself -/
theorem hit_self {α : Type} (f : α → D) (t0 : List (Str × α)) (hd : ∀ p ∈ t0, deqF 30 (f p.2) (f p.2) = some true) (hn : (t0.map (·.1)).Nodup) : ∀ t : List (Str × α), (∀ p ∈ t, p ∈ t0) → hitD (t0.map fun p => (D.str p.1, f p.2)) (t.map fun p => (D.str p.1, f p.2)) = some true
  | [], _ => rfl
  | p :: t, h => by
    have hp := h p List.mem_cons_self
    have hg : getE (t0.map fun p => (D.str p.1, f p.2)) (.str p.1) = some (f p.2) := by
      rw [get_dT, lookup_of_mem hn hp]; rfl
    have ih := hit_self f t0 hd hn t fun q hq => h q (List.mem_cons_of_mem _ hq)
    rw [List.map_cons, hitD]
    simp only [hg, hd p hp, ih]
    rfl
theorem deq_pl (ps : List (Option Str)) : deqF 30 (dPl ps) (dPl ps) = some true := by
  show (if (ps.map dO).length = (ps.map dO).length then deqL (deqF 29) (ps.map dO) (ps.map dO) else some false) = _
  rw [if_pos rfl, deqL_dO 28 ps ps rfl]; simp
theorem deq_N (v : Nat) : deqF 30 (dN v) (dN v) = some true := by
  simp [deqF, dN, toV, eqV]
theorem neE_dOR (o : Option (List Str)) : neE (dOR o) (dOR o) = some (.sh (.bl false)) := by
  have := ne_dOR o
  cases o with
  | none => exact this
  | some p => exact this
end RW
namespace RW
open PySem L2 Gr
/-! ### known mixtures: tools -/
theorem eqE_of {α : Type} (f : α → D) {t u : List (Str × α)} (hd : ∀ p ∈ u, deqF 30 (f p.2) (f p.2) = some true) (hn : (u.map (·.1)).Nodup) (hs : ∀ p ∈ t, p ∈ u) (hl : t.length = u.length) : eqE (dT f t) (dT f u) = some (.sh (.bl true)) ∧ neE (dT f t) (dT f u) = some (.sh (.bl false)) := by
  have h := hit_self f u hd hn t hs
  have hk : deqK (t.map fun p => (D.str p.1, f p.2)) (u.map fun p => (D.str p.1, f p.2)) = some true := by
    unfold deqK
    rw [h]; simp [hl]
  constructor
  · show (deqK (t.map fun p => (D.str p.1, f p.2)) (u.map fun p => (D.str p.1, f p.2))).map _ = _
    rw [hk]; rfl
  · show (deqK (t.map fun p => (D.str p.1, f p.2)) (u.map fun p => (D.str p.1, f p.2))).map _ = _
    rw [hk]; rfl
theorem wk_map {N : Str → List Str} {N0 : Nat → List Nat} {f : Nat → Str} (h : ∀ i, N (f i) = (N0 i).map f) : ∀ k i, wk N k (f i) = wk N0 k i
  | 0, i => rfl
  | k + 1, i => by
    have e : (wk N k ∘ f) = wk N0 k := funext fun j => wk_map h k j
    rw [wk, wk, h, List.any_map, e]
theorem ht_map {N : Str → List Str} {N0 : Nat → List Nat} {f : Nat → Str} (h : ∀ i, N (f i) = (N0 i).map f) (m i : Nat) : ht N m (f i) = ht N0 m i := by
  unfold ht
  have e : (fun k => wk N (k + 1) (f i)) = fun k => wk N0 (k + 1) i := funext fun k => wk_map h (k + 1) i
  rw [e]
def inP (dots : List Str) (o : Option Str) : Bool := match o with
  | some y => decide (y ∈ dots)
  | none => false
theorem nxw {dots : List Str} {p : Tab × Tab} {ready part : List Str} {x : Str} (h : x ∈ dots) : nx (webOf dots p ready part) x = ((spW p ready part x).filter (inP dots)).map unO := by
  unfold nx
  rw [plW_web h]
  have e : inW (webOf dots p ready part) = inP dots := by
    funext o
    cases o with
    | none => rfl
    | some y => show decide (y ∈ kW (webOf dots p ready part)) = _; rw [kW_web]; rfl
  rw [e]
theorem best_one {W : Web} {p : List Str} (h : RingW W p) (hu : ∀ q, RingW W q → q = p) : BestR W (some p) := ⟨h, fun q hq => .inr ⟨by rw [hu q hq], .inl (hu q hq).symm⟩⟩
theorem best_eq {W : Web} {o : Option (List Str)} {p : List Str} (hb : BestR W o) (h : RingW W p) (hu : ∀ q, RingW W q → q = p) : o = some p := best_unique hb (best_one h hu)
theorem best_no {W : Web} {o : Option (List Str)} {t : Rk} (hb : BestR W o) (h : rkW W = some t) : o = none := by
  have := rk_none o hb
  rw [h] at this
  cases o with
  | none => rfl
  | some p => cases this
theorem best_yes {W : Web} {p : List Str} (hb : BestR W (some p)) : rkW W = none := by
  have := rk_none (some p) hb
  cases h : rkW W with
  | none => rfl
  | some t => rw [h] at this; cases this
theorem rk_of {W : Web} (hw : ∀ x ∈ kW W, wk (nx W) W.length x = false) : rkW W = some ((kW W).map fun x => (x, ht (nx W) W.length x)) := by
  unfold rkW
  rw [if_pos]
  rw [List.all_eq_true]
  intro x hx
  rw [hw x hx]; rfl
theorem ring_shape {W : Web} {q : List Str} (h : RingW W q) : ∃ x l z, q = x :: l ∧ (∀ y ∈ l, ltS x y) ∧ Ch (nx W) q ∧ q.Nodup ∧ q.getLast? = some z ∧ x ∈ nx W z := by
  obtain ⟨x, l, e, hl⟩ := h.1.least
  obtain ⟨x', l', z, e', hz, hb⟩ := h.1.back
  rw [e] at e'
  cases e'
  exact ⟨x, l, z, e, hl, h.1.ch, h.1.nd, hz, hb⟩
theorem len_web (dots : List Str) (p : Tab × Tab) (ready part : List Str) : (webOf dots p ready part).length = dots.length := by unfold webOf; rw [List.length_map]
theorem up_nil : Up [] := List.Pairwise.nil
theorem up_one (x : Str) : Up [x] := List.pairwise_singleton _ _
theorem rk_dN (W : Web) {t : Rk} {u : List (Str × Nat)} (h : rkW W = some t) (hn : (u.map (·.1)).Nodup) (hk : ∀ x ∈ kW W, (x, ht (nx W) W.length x) ∈ u) (hl : (kW W).length = u.length) : neE (dT dN t) (dT dN u) = some (.sh (.bl false)) := by
  unfold rkW at h
  split at h
  · cases h
    refine (eqE_of dN (fun p _ => deq_N _) hn (fun p hp => ?_) (by rw [List.length_map]; exact hl)).2
    obtain ⟨x, hx, rfl⟩ := List.mem_map.mp hp
    exact hk x hx
  · cases h
theorem web_dPl {dots : List Str} {p : Tab × Tab} {ready part : List Str} {u : List (Str × List (Option Str))} (hn : (u.map (·.1)).Nodup) (hk : ∀ x ∈ dots, (x, spW p ready part x) ∈ u) (hl : dots.length = u.length) : neE (dW (webOf dots p ready part)) (dT dPl u) = some (.sh (.bl false)) := by
  refine (eqE_of dPl (fun p _ => deq_pl _) hn (fun q hq => ?_) (by rw [len_web]; exact hl)).2
  obtain ⟨x, hx, rfl⟩ := List.mem_map.mp hq
  exact hk x hx
/-! tables of two and three -/
theorem look2 {x y : Str} {u v : Option Str} (h : x ≠ y) : look [(x, u), (y, v)] x = u ∧ look [(x, u), (y, v)] y = v := by
  have h' : (y == x) = false := by simpa using Ne.symm h
  constructor
  · simp [look]
  · simp [look, List.lookup, h']
theorem look3 {x y z : Str} {u v w : Option Str} (h : x ≠ y) (h2 : x ≠ z) (h3 : y ≠ z) : look [(x, u), (y, v), (z, w)] x = u ∧ look [(x, u), (y, v), (z, w)] y = v ∧ look [(x, u), (y, v), (z, w)] z = w := by
  have h' : (y == x) = false := by simpa using Ne.symm h
  have h'' : (z == x) = false := by simpa using Ne.symm h2
  have h''' : (z == y) = false := by simpa using Ne.symm h3
  refine ⟨?_, ?_, ?_⟩
  · simp [look]
  · simp [look, List.lookup, h']
  · simp [look, List.lookup, h'', h''']
theorem mem_two {a b x : Str} : x ∈ sortS [a, b] ↔ x = a ∨ x = b := by rw [sortS_mem]; simp
theorem mem_three {a b c x : Str} : x ∈ sortS [a, b, c] ↔ x = a ∨ x = b ∨ x = c := by rw [sortS_mem]; simp
end RW
namespace RW
open PySem L2 Gr
/-! ### two nodes that lead to one another -/
def pT (a b e : Str) : Tab × Tab := ([(a, some b), (b, some e)], [(a, some e), (b, some a)])
def pairM (a b e : Str) : Mod := ⟨[(e, pT a b e)], sortS [a, b], [a], []⟩
section
variable {a b e : Str} (hab : a ≠ b) (hae : a ≠ e) (hbe : b ≠ e)
include hab in
theorem two_nd : (sortS [a, b]).Nodup := sortS_nd (by simp [hab])
include hab hae hbe in
theorem pairV_ok (ha : isName a) (hb : isName b) (he : isName e) : ModOk (pairM a b e) := by
  have hd : ∀ x, x ∈ sortS [a, b] → x = a ∨ x = b := fun x => mem_two.mp
  have hl : (sortS [a, b]).length = 2 := sortS_len _
  have ma : a ∈ sortS [a, b] := mem_two.mpr (.inl rfl)
  have mb : b ∈ sortS [a, b] := mem_two.mpr (.inr rfl)
  have hrow : ∀ p ∈ (pairM a b e).rows, p = (e, pT a b e) := fun p hp => List.mem_singleton.mp hp
  have hperm : [a, b].Perm (sortS [a, b]) := (sortS_perm _).symm
  refine ⟨⟨by show 0 < 1; omega, by show 1 ≤ 2; omega, by show ([e] : List Str).Nodup; simp, fun p hp => by rw [hrow p hp]; exact he, fun p hp => ?_, fun p hp => ?_, by show 0 < (sortS [a, b]).length; omega, by show (sortS [a, b]).length ≤ 6; omega, two_nd hab, sortS_pw _, fun x hx => ?_, by show ([a] : List Str).Nodup; simp, up_one a, fun x hx => ?_, by show ([] : List Str).Nodup; simp, by show 0 ≤ 2; omega, fun x hx => by cases hx⟩, up_one e⟩
  · rw [hrow p hp]
    show e ∉ sortS [a, b]
    rw [mem_two]
    exact fun z => z.elim (fun z => hae z.symm) fun z => hbe z.symm
  · rw [hrow p hp]
    constructor
    · refine ⟨hperm, fun q hq => ?_⟩
      have hq : q ∈ [(a, some b), (b, some e)] := hq
      rcases List.mem_cons.mp hq with rfl | hq
      · exact .inr (.inr ⟨b, rfl, mb, Ne.symm hab⟩)
      · rw [List.mem_singleton.mp hq]; exact .inr (.inl rfl)
    · refine ⟨hperm, fun q hq => ?_⟩
      have hq : q ∈ [(a, some e), (b, some a)] := hq
      rcases List.mem_cons.mp hq with rfl | hq
      · exact .inr (.inl rfl)
      · rw [List.mem_singleton.mp hq]; exact .inr (.inr ⟨a, rfl, ma, hab⟩)
  · rcases hd x hx with rfl | rfl <;> assumption
  · rw [List.mem_singleton.mp hx]; exact ma
include hab in
theorem pT_look : look (pT a b e).1 a = some b ∧ look (pT a b e).1 b = some e ∧ look (pT a b e).2 a = some e ∧ look (pT a b e).2 b = some a :=
  ⟨(look2 hab).1, (look2 hab).2, (look2 hab).1, (look2 hab).2⟩
include hab hae hbe in
theorem pair_chg : changing (pairM a b e) = sortS [a, b] := by
  obtain ⟨l1, l2, l3, l4⟩ := pT_look (e := e) hab
  have key : ∀ x ∈ sortS [a, b], chg (pairM a b e) x = true := fun x hx => by
    rcases mem_two.mp hx with rfl | rfl
    · show (!decide (look (pT x b e).1 x = look (pT x b e).2 x) || false) = true
      rw [l1, l3]; simp [hbe]
    · show (!decide (look (pT a x e).1 x = look (pT a x e).2 x) || false) = true
      rw [l2, l4]; simp [Ne.symm hae]
  exact List.filter_eq_self.mpr key
/-- the ways of a node -/
theorem sp_ready {p : Tab × Tab} {ready part : List Str} {x : Str} (h : x ∈ ready) : spW p ready part x = [look p.2 x] := by unfold spW; rw [if_pos h]
theorem sp_part {p : Tab × Tab} {ready part : List Str} {x : Str} (h : x ∉ ready) (h2 : x ∈ part) (h3 : look p.2 x ≠ look p.1 x) : spW p ready part x = [look p.1 x, look p.2 x] := by unfold spW; rw [if_neg h, if_pos ⟨h2, h3⟩]
theorem sp_same {p : Tab × Tab} {ready part : List Str} {x : Str} (h : x ∉ ready) (h3 : look p.2 x = look p.1 x) : spW p ready part x = [look p.1 x] := by unfold spW; rw [if_neg h, if_neg fun z => z.2 h3]
theorem sp_old {p : Tab × Tab} {ready part : List Str} {x : Str} (h : x ∉ ready) (h2 : x ∉ part) : spW p ready part x = [look p.1 x] := by unfold spW; rw [if_neg h, if_neg fun z => h2 z.1]
include hab hae hbe in
theorem pair_sp {ready part : List Str} : (a ∈ ready → spW (pT a b e) ready part a = [some e]) ∧ (a ∉ ready → a ∈ part → spW (pT a b e) ready part a = [some b, some e]) ∧ (a ∉ ready → a ∉ part → spW (pT a b e) ready part a = [some b]) ∧
    (b ∈ ready → spW (pT a b e) ready part b = [some a]) ∧ (b ∉ ready → b ∈ part → spW (pT a b e) ready part b = [some e, some a]) ∧ (b ∉ ready → b ∉ part → spW (pT a b e) ready part b = [some e]) := by
  obtain ⟨l1, l2, l3, l4⟩ := pT_look (e := e) hab
  refine ⟨fun h => by rw [sp_ready h, l3], fun h h2 => ?_, fun h h2 => by rw [sp_old h h2, l1], fun h => by rw [sp_ready h, l4], fun h h2 => ?_, fun h h2 => by rw [sp_old h h2, l2]⟩
  · rw [sp_part h h2 (by rw [l1, l3]; simp [Ne.symm hbe]), l1, l3]
  · rw [sp_part h h2 (by rw [l2, l4]; simp [hae]), l2, l4]
include hae hbe in
theorem pair_in : inP (sortS [a, b]) (some a) = true ∧ inP (sortS [a, b]) (some b) = true ∧ inP (sortS [a, b]) (some e) = false := by
  refine ⟨?_, ?_, ?_⟩
  · exact decide_eq_true (mem_two.mpr (.inl rfl))
  · exact decide_eq_true (mem_two.mpr (.inr rfl))
  · exact decide_eq_false fun z => (mem_two.mp z).elim (fun z => hae z.symm) fun z => hbe z.symm
/- two nodes in a ring -/
include hab in
theorem two_ring {W : Web} (hk : kW W = sortS [a, b]) (ha : nx W a = [b]) (hb : nx W b = [a]) : RingW W (sortS [a, b]) ∧ ∀ q, RingW W q → q = sortS [a, b] := by
  have key : ∀ u v : Str, sortS [a, b] = [u, v] → ltS u v → nx W u = [v] → nx W v = [u] → RingW W (sortS [a, b]) ∧ ∀ q, RingW W q → q = sortS [a, b] := by
    intro u v e hlt hu hv
    rw [e] at hk ⊢
    have hne : u ≠ v := fun z => by subst z; exact ltS_lin.irr u hlt
    refine ⟨⟨⟨⟨⟨by rw [hu]; simp, trivial⟩, by simp [hne], ⟨u, [v], rfl, fun x hx => by rw [List.mem_singleton.mp hx]; exact hlt⟩⟩, ⟨u, [v], v, rfl, rfl, by rw [hv]; simp⟩⟩, fun x hx => by rw [hk]; exact hx⟩, fun q hq => ?_⟩
    have hin := hq.2
    rw [hk] at hin
    obtain ⟨x, l, z, rfl, hl, hc, hnd, hz, hbk⟩ := ring_shape hq
    have hx : x = u ∨ x = v := by simpa using hin x List.mem_cons_self
    match l, hl, hc, hnd, hz, hbk, hin with
    | [], hl, hc, hnd, hz, hbk, hin =>
      have hz : x = z := by simpa using hz
      subst hz
      rcases hx with rfl | rfl
      · rw [hu] at hbk; exact (hne (List.mem_singleton.mp hbk)).elim
      · rw [hv] at hbk; exact (hne (List.mem_singleton.mp hbk).symm).elim
    | [y], hl, hc, hnd, hz, hbk, hin =>
      have hxy := hl y List.mem_cons_self
      have hy : y ∈ nx W x := hc.1
      rcases hx with rfl | rfl
      · rw [hu] at hy; rw [List.mem_singleton.mp hy]
      · rw [hv] at hy; rw [List.mem_singleton.mp hy] at hxy
        exact (ltS_lin.irr _ (ltS_lin.tr hlt hxy)).elim
    | y :: w :: l, hl, hc, hnd, hz, hbk, hin =>
      have := nodup_len hnd hin
      simp at this
  rcases ltS_lin.tri a b with h | h | h
  · exact key a b (sort_two h).1 h ha hb
  · exact (hab h).elim
  · exact key b a (sort_two h).2 h hb ha
end
end RW
namespace RW
open PySem L2 Gr
/-! ### moving packets judged, where all moments are right -/
abbrev Mst := Option Str × List Str
def dMs (q : Mst) : D := .tup [dO q.1, .tup (dS q.2)]
def ldB (M : Mod) (p : Tab × Tab) (ready : List Str) (q q' : Mst) : Bool := match q.1 with
  | none => false
  | some y => decide (y ∈ M.dots) && ((q.2.all fun z => decide (z ∈ q'.2)) && decide (look (nowT M.dots p (ready ++ q.2)) y = q'.1))
theorem in_tupO (y : Option Str) (l : List Str) : inB (dO y) (.tup (dS l)) = some (inP l y) := by
  have := in_lstO y (l.map some)
  have e : lO (l.map some) = dS l := by simp [lO, dS, Function.comp_def, dO]
  rw [e] at this
  have e2 : inB (dO y) (.tup (dS l)) = inB (dO y) (.lst (dS l)) := by cases y <;> rfl
  rw [e2, this]
  cases y with
  | none => simp [inP]
  | some z => simp [inP]
theorem zip_encV {α β : Type} (f : α → D) (g : β → D) (xs : List α) (ys : List β) : zipOf (xs.map f) (ys.map g) = (xs.zip ys).map fun q => .tup [f q.1, g q.2] := by
  unfold zipOf
  rw [List.zip_map, List.map_map]
  rfl
theorem all_yesV {α : Type} (xs : List α) {f : α → Bool} (h : ∀ x ∈ xs, f x = true) : allD (.lst (xs.map fun x => .bl (f x))) = some (.sh (.bl true)) := by
  have := all_bl (xs.map f)
  rw [List.map_map] at this
  rw [show (xs.map fun x => D.bl (f x)) = xs.map (D.bl ∘ f) from rfl, this, List.all_map]
  congr 3
  exact List.all_eq_true.mpr fun x hx => h x hx
section
variable {R : Type} {T : Fm R}
variable {M : Mod} (hM : ModOk M)
include hM
theorem is_moment_ok {part m : List Str} (hu : Up m) (hn : m.Nodup) (hs : ∀ x ∈ m, x ∈ part) (hp : ∀ x ∈ part, x ∈ changing M) (r : R) : f_is_moment T [netD M, .tup (dS part), .tup (dS m)] r = some (.sh (.bl true), r) := by
  have d2 := hM.d2
  have q1 := is_lot_ok (T := T) hM hu hn (fun x hx => hp x (hs x hx)) r
  have hl : m.length ≤ 6 := by
    have := sub_len hn fun x hx => (List.mem_filter.mp (hp x (hs x hx))).1
    omega
  unfold f_is_moment m_is_moment
  generalize hL : mLc _ _ _ _ _ = L
  have eL : L ⟨[some ⟨netD M, false⟩, some ⟨.tup (dS part), false⟩, some ⟨.tup (dS m), false⟩, none], r⟩ = some (.tmp (.lst (m.map fun _ => .bl true)), ⟨[some ⟨netD M, false⟩, some ⟨.tup (dS part), false⟩, some ⟨.tup (dS m), false⟩, none], r⟩) := by
    rw [← hL]
    refine mLc_all D.str (fun _ => .bl true) m ?_ (by rfl) (fun x hx => ?_) (by unfold sizeLine; omega)
    · simp [fnM, fnR, ent, mSeq, mSet, mV, mC, mOp1, mOp2, mChain, mAnd, mOr, mNot, mIf, mArgs, escAll, esc, soft, pk, hard, put, puts, mHards, mPar, mTup, mLst, mDct0, mCall, mRest, mRt, mRtN, mNx, mEx, mIte, mMut, mPut, mIt, bindT, bindTs, isAtom, isLst, isDK, plainAt, wipeE, backE, mFor, mLc, mDc, mWhile, mBk, mCt, mNo, mSl, mNoP, mPt, mJoin, mRng1, mRng2, mZip, mCallK, pickL, mMeth, mProp, mMake, mFld, fnI, fnIR, mDisp, mPairs, o2I, gtI, geI, leI, mStar, mStarT, mStarL, mAugI, mIndex, itemsOf, dS]
    · have h1 := in_tup x part
      rw [decide_eq_true (hs x hx)] at h1
      simp [fnM, fnR, ent, mSeq, mSet, mV, mC, mOp1, mOp2, mChain, mAnd, mOr, mNot, mIf, mArgs, escAll, esc, soft, pk, hard, put, puts, mHards, mPar, mTup, mLst, mDct0, mCall, mRest, mRt, mRtN, mNx, mEx, mIte, mMut, mPut, mIt, bindT, bindTs, isAtom, isLst, isDK, plainAt, wipeE, backE, mFor, mLc, mDc, mWhile, mBk, mCt, mNo, mSl, mNoP, mPt, mJoin, mRng1, mRng2, mZip, mCallK, pickL, mMeth, mProp, mMake, mFld, fnI, fnIR, mDisp, mPairs, o2I, gtI, geI, leI, mStar, mStarT, mStarL, mAugI, mIndex, inD, h1]
  have a1 := all_yesV m (f := fun _ => true) fun _ _ => rfl
  simp [fnM, fnR, ent, mSeq, mSet, mV, mC, mOp1, mOp2, mChain, mAnd, mOr, mNot, mIf, mArgs, escAll, esc, soft, pk, hard, put, puts, mHards, mPar, mTup, mLst, mDct0, mCall, mRest, mRt, mRtN, mNx, mEx, mIte, mMut, mPut, mIt, bindT, bindTs, isAtom, isLst, isDK, plainAt, wipeE, backE, mFor, mLc, mDc, mWhile, mBk, mCt, mNo, mSl, mNoP, mPt, mJoin, mRng1, mRng2, mZip, mCallK, pickL, mMeth, mProp, mMake, mFld, fnI, fnIR, mDisp, mPairs, o2I, gtI, geI, leI, mStar, mStarT, mStarL, mAugI, mIndex, q1, eL, a1]
theorem is_step_ok {part : List Str} {q : Mst} (hu : Up q.2) (hn : q.2.Nodup) (hs : ∀ x ∈ q.2, x ∈ part) (hp : ∀ x ∈ part, x ∈ changing M) (r : R) : f_is_step T [netD M, .tup (dS part), dMs q] r = some (.sh (.bl true), r) := by
  have q1 := is_moment_ok (T := T) hM hu hn hs hp r
  obtain ⟨o, m⟩ := q
  have h0 : isiD "tuple" (.tup [dO o, .tup (dS m)]) = some (.sh (.bl true)) := rfl
  have h1 : lenD (.tup [dO o, .tup (dS m)]) = some (.sh (.int 2)) := rfl
  have h2 : neD (.int 2) (.int 2) = some (.sh (.bl false)) := by rw [ne_int']; simp
  have h4 : ∀ o : Str, isiD "str" (.str o) = some (.sh (.bl true)) := fun _ => rfl
  unfold f_is_step m_is_step dMs
  cases o with
  | none =>
    simp only [dO] at h0 h1
    simp [fnM, fnR, ent, mSeq, mSet, mV, mC, mOp1, mOp2, mChain, mAnd, mOr, mNot, mIf, mArgs, escAll, esc, soft, pk, hard, put, puts, mHards, mPar, mTup, mLst, mDct0, mCall, mRest, mRt, mRtN, mNx, mEx, mIte, mMut, mPut, mIt, bindT, bindTs, isAtom, isLst, isDK, plainAt, wipeE, backE, mFor, mLc, mDc, mWhile, mBk, mCt, mNo, mSl, mNoP, mPt, mJoin, mRng1, mRng2, mZip, mCallK, pickL, mMeth, mProp, mMake, mFld, fnI, fnIR, mDisp, mPairs, o2I, gtI, geI, leI, mStar, mStarT, mStarL, mAugI, mIndex, h0, h1, h2, idx_tup2_1, idx_tup2_0, q1, dO, isN]
  | some o =>
    simp only [dO] at h0 h1
    simp [fnM, fnR, ent, mSeq, mSet, mV, mC, mOp1, mOp2, mChain, mAnd, mOr, mNot, mIf, mArgs, escAll, esc, soft, pk, hard, put, puts, mHards, mPar, mTup, mLst, mDct0, mCall, mRest, mRt, mRtN, mNx, mEx, mIte, mMut, mPut, mIt, bindT, bindTs, isAtom, isLst, isDK, plainAt, wipeE, backE, mFor, mLc, mDc, mWhile, mBk, mCt, mNo, mSl, mNoP, mPt, mJoin, mRng1, mRng2, mZip, mCallK, pickL, mMeth, mProp, mMake, mFld, fnI, fnIR, mDisp, mPairs, o2I, gtI, geI, leI, mStar, mStarT, mStarL, mAugI, mIndex, h0, h1, h2, idx_tup2_1, idx_tup2_0, q1, dO, isN, h4]
theorem does_lead_ok {ready : List Str} {e : Str} {p : Tab × Tab} (hp : (e, p) ∈ M.rows) {q q' : Mst} (hl : q.2.length ≤ 6) (r : R) : f_does_lead T [netD M, .tup (dS ready), .str e, dMs q, dMs q'] r = some (.sh (.bl (ldB M p ready q q')), r) := by
  have d2 := hM.d2
  obtain ⟨o, m⟩ := q
  obtain ⟨o', m'⟩ := q'
  have q1 := moment_ok (T := T) hM hp ready m r
  have hin := in_tupO o M.dots
  have hf := fld3 M
  unfold f_does_lead m_does_lead dMs
  generalize hU : mUnp _ _ = U
  generalize hL : mLc _ _ _ _ _ = L
  have eU : U ⟨[some ⟨netD M, false⟩, some ⟨.tup (dS ready), false⟩, some ⟨.str e, false⟩, some ⟨.tup [dO o, .tup (dS m)], false⟩, some ⟨.tup [dO o', .tup (dS m')], false⟩, none, none, none], r⟩ = some (.nx, ⟨[some ⟨netD M, false⟩, some ⟨.tup (dS ready), false⟩, some ⟨.str e, false⟩, some ⟨.tup [dO o, .tup (dS m)], false⟩, some ⟨.tup [dO o', .tup (dS m')], false⟩, some ⟨dO o, false⟩, some ⟨.tup (dS m), false⟩, none], r⟩) := by
    rw [← hU]
    refine mUnp_ok (v := .sh (.tup [dO o, .tup (dS m)])) (s1 := ⟨[some ⟨netD M, false⟩, some ⟨.tup (dS ready), false⟩, some ⟨.str e, false⟩, some ⟨.tup [dO o, .tup (dS m)], false⟩, some ⟨.tup [dO o', .tup (dS m')], false⟩, none, none, none], r⟩) ?_ rfl rfl
    simp [fnM, fnR, ent, mSeq, mSet, mV, mC, mOp1, mOp2, mChain, mAnd, mOr, mNot, mIf, mArgs, escAll, esc, soft, pk, hard, put, puts, mHards, mPar, mTup, mLst, mDct0, mCall, mRest, mRt, mRtN, mNx, mEx, mIte, mMut, mPut, mIt, bindT, bindTs, isAtom, isLst, isDK, plainAt, wipeE, backE, mFor, mLc, mDc, mWhile, mBk, mCt, mNo, mSl, mNoP, mPt, mJoin, mRng1, mRng2, mZip, mCallK, pickL, mMeth, mProp, mMake, mFld, fnI, fnIR, mDisp, mPairs, o2I, gtI, geI, leI, mStar, mStarT, mStarL, mAugI, mIndex]
  have eL : L ⟨[some ⟨netD M, false⟩, some ⟨.tup (dS ready), false⟩, some ⟨.str e, false⟩, some ⟨.tup [dO o, .tup (dS m)], false⟩, some ⟨.tup [dO o', .tup (dS m')], false⟩, some ⟨dO o, false⟩, some ⟨.tup (dS m), false⟩, none], r⟩ = some (.tmp (.lst (m.map fun z => .bl (decide (z ∈ m')))), ⟨[some ⟨netD M, false⟩, some ⟨.tup (dS ready), false⟩, some ⟨.str e, false⟩, some ⟨.tup [dO o, .tup (dS m)], false⟩, some ⟨.tup [dO o', .tup (dS m')], false⟩, some ⟨dO o, false⟩, some ⟨.tup (dS m), false⟩, none], r⟩) := by
    rw [← hL]
    refine mLc_all D.str (fun z => .bl (decide (z ∈ m'))) m ?_ (by rfl) (fun x hx => ?_) (by have : m.length ≤ 6 := hl; unfold sizeLine; omega)
    · simp [fnM, fnR, ent, mSeq, mSet, mV, mC, mOp1, mOp2, mChain, mAnd, mOr, mNot, mIf, mArgs, escAll, esc, soft, pk, hard, put, puts, mHards, mPar, mTup, mLst, mDct0, mCall, mRest, mRt, mRtN, mNx, mEx, mIte, mMut, mPut, mIt, bindT, bindTs, isAtom, isLst, isDK, plainAt, wipeE, backE, mFor, mLc, mDc, mWhile, mBk, mCt, mNo, mSl, mNoP, mPt, mJoin, mRng1, mRng2, mZip, mCallK, pickL, mMeth, mProp, mMake, mFld, fnI, fnIR, mDisp, mPairs, o2I, gtI, geI, leI, mStar, mStarT, mStarL, mAugI, mIndex, itemsOf, dS]
    · have h1 := in_tup x m'
      simp [fnM, fnR, ent, mSeq, mSet, mV, mC, mOp1, mOp2, mChain, mAnd, mOr, mNot, mIf, mArgs, escAll, esc, soft, pk, hard, put, puts, mHards, mPar, mTup, mLst, mDct0, mCall, mRest, mRt, mRtN, mNx, mEx, mIte, mMut, mPut, mIt, bindT, bindTs, isAtom, isLst, isDK, plainAt, wipeE, backE, mFor, mLc, mDc, mWhile, mBk, mCt, mNo, mSl, mNoP, mPt, mJoin, mRng1, mRng2, mZip, mCallK, pickL, mMeth, mProp, mMake, mFld, fnI, fnIR, mDisp, mPairs, o2I, gtI, geI, leI, mStar, mStarT, mStarL, mAugI, mIndex, inD, h1, idx_tup2_1]
  have a1 : allD (.lst (m.map fun z => .bl (decide (z ∈ m')))) = some (.sh (.bl (m.all fun z => decide (z ∈ m')))) := by
    have := all_bl (m.map fun z => decide (z ∈ m'))
    rw [List.map_map, List.all_map] at this
    exact this
  have hdo : ∀ w, eqD (dO w) (dO o') = some (.sh (.bl (decide (w = o')))) := fun w => eq_dO w o'
  generalize dO o' = d' at *
  cases o with
  | none =>
    have hin : inB .non (.tup (dS M.dots)) = some false := hin
    simp only [dO] at eU eL ⊢
    simp [fnM, fnR, ent, mSeq, mSet, mV, mC, mOp1, mOp2, mChain, mAnd, mOr, mNot, mIf, mArgs, escAll, esc, soft, pk, hard, put, puts, mHards, mPar, mTup, mLst, mDct0, mCall, mRest, mRt, mRtN, mNx, mEx, mIte, mMut, mPut, mIt, bindT, bindTs, isAtom, isLst, isDK, plainAt, wipeE, backE, mFor, mLc, mDc, mWhile, mBk, mCt, mNo, mSl, mNoP, mPt, mJoin, mRng1, mRng2, mZip, mCallK, pickL, mMeth, mProp, mMake, mFld, fnI, fnIR, mDisp, mPairs, o2I, gtI, geI, leI, mStar, mStarT, mStarL, mAugI, mIndex, eU, ninD, hin, hf, ldB]
  | some y =>
    have hin : inB (.str y) (.tup (dS M.dots)) = some (decide (y ∈ M.dots)) := hin
    simp only [dO] at eU eL ⊢
    by_cases hy : y ∈ M.dots
    · rw [decide_eq_true hy] at hin
      have hlk : (nowT M.dots p (ready ++ m)).lookup y = some (look (nowT M.dots p (ready ++ m)) y) := by
        have : y ∈ (nowT M.dots p (ready ++ m)).map (·.1) := by unfold nowT; rw [List.map_map]; simpa [Function.comp_def] using hy
        obtain ⟨v, hv⟩ := Option.isSome_iff_exists.mp (look_some.mp this)
        unfold look
        rw [hv]; rfl
      have hix : idxD (dT dO (nowT M.dots p (ready ++ m))) (.str y) = some (.sh (dO (look (nowT M.dots p (ready ++ m)) y))) := idx_dT dO hlk
      have heq := hdo (look (nowT M.dots p (ready ++ m)) y)
      cases ha : (m.all fun z => decide (z ∈ m')) with
      | true =>
        rw [ha] at a1
        simp [fnM, fnR, ent, mSeq, mSet, mV, mC, mOp1, mOp2, mChain, mAnd, mOr, mNot, mIf, mArgs, escAll, esc, soft, pk, hard, put, puts, mHards, mPar, mTup, mLst, mDct0, mCall, mRest, mRt, mRtN, mNx, mEx, mIte, mMut, mPut, mIt, bindT, bindTs, isAtom, isLst, isDK, plainAt, wipeE, backE, mFor, mLc, mDc, mWhile, mBk, mCt, mNo, mSl, mNoP, mPt, mJoin, mRng1, mRng2, mZip, mCallK, pickL, mMeth, mProp, mMake, mFld, fnI, fnIR, mDisp, mPairs, o2I, gtI, geI, leI, mStar, mStarT, mStarL, mAugI, mIndex, eU, ninD, hin, hf, eL, a1, q1, hix, idx_tup2_0, heq, ldB, hy, ha]
      | false =>
        rw [ha] at a1
        simp [fnM, fnR, ent, mSeq, mSet, mV, mC, mOp1, mOp2, mChain, mAnd, mOr, mNot, mIf, mArgs, escAll, esc, soft, pk, hard, put, puts, mHards, mPar, mTup, mLst, mDct0, mCall, mRest, mRt, mRtN, mNx, mEx, mIte, mMut, mPut, mIt, bindT, bindTs, isAtom, isLst, isDK, plainAt, wipeE, backE, mFor, mLc, mDc, mWhile, mBk, mCt, mNo, mSl, mNoP, mPt, mJoin, mRng1, mRng2, mZip, mCallK, pickL, mMeth, mProp, mMake, mFld, fnI, fnIR, mDisp, mPairs, o2I, gtI, geI, leI, mStar, mStarT, mStarL, mAugI, mIndex, eU, ninD, hin, hf, eL, a1, ldB, hy, ha]
    · rw [decide_eq_false hy] at hin
      simp [fnM, fnR, ent, mSeq, mSet, mV, mC, mOp1, mOp2, mChain, mAnd, mOr, mNot, mIf, mArgs, escAll, esc, soft, pk, hard, put, puts, mHards, mPar, mTup, mLst, mDct0, mCall, mRest, mRt, mRtN, mNx, mEx, mIte, mMut, mPut, mIt, bindT, bindTs, isAtom, isLst, isDK, plainAt, wipeE, backE, mFor, mLc, mDc, mWhile, mBk, mCt, mNo, mSl, mNoP, mPt, mJoin, mRng1, mRng2, mZip, mCallK, pickL, mMeth, mProp, mMake, mFld, fnI, fnIR, mDisp, mPairs, o2I, gtI, geI, leI, mStar, mStarT, mStarL, mAugI, mIndex, eU, ninD, hin, hf, ldB, hy]
/-- a list of places and moments, judged -/
def mvB (M : Mod) (p : Tab × Tab) (ready : List Str) (x : Str) : List Mst → Bool
  | [] => false
  | q :: qs => decide (q.1 = some x) && ((q :: qs).zip qs).all fun z => ldB M p ready z.1 z.2
theorem is_moving_ok {ready part : List Str} (hr : RoundOk M ready part) {e : Str} {p : Tab × Tab} (hp : (e, p) ∈ M.rows) {x : Str} (hx : x ∈ M.dots) {q0 : Mst} {qs : List Mst} (hq : ∀ q ∈ q0 :: qs, Up q.2 ∧ q.2.Nodup ∧ ∀ x ∈ q.2, x ∈ part) (hl : qs.length ≤ 100) (r : R) :
    f_is_moving T [netD M, .tup (dS ready), .tup (dS part), .str e, .str x, .lst ((q0 :: qs).map dMs)] r = some (.sh (.bl (mvB M p ready x (q0 :: qs))), r) := by
  have d2 := hM.d2
  have q1 := need_round_ok (T := T) hM hr r
  have q4 := need_goal_ok (T := T) (M := M) (x := e) (List.mem_map.mpr ⟨_, hp, rfl⟩) r
  have q5 := need_node_ok (T := T) (M := M) hx r
  have hlen : lenD (.lst ((q0 :: qs).map dMs)) = some (.sh (.int ((qs.length + 1 : Nat) : Int))) := by
    have := len_lst ((q0 :: qs).map dMs); rw [List.length_map] at this; exact this
  have hne : eqD (.int ((qs.length + 1 : Nat) : Int)) (.int 0) = some (.sh (.bl false)) := by
    have : ¬ (((qs.length + 1 : Nat) : Int) = 0) := by omega
    rw [eq_int', decide_eq_false this]
  have h0 : idxD (.lst ((q0 :: qs).map dMs)) (.int 0) = some (.sh (dMs q0)) := by simp [idxD, idxS, atI, ixN]
  have h00 : idxD (dMs q0) (.int 0) = some (.sh (dO q0.1)) := rfl
  have hne2 : neD (dO q0.1) (.str x) = some (.sh (.bl (!decide (q0.1 = some x)))) := ne_dO q0.1 (some x)
  have hit : itemsOf (.lst ((q0 :: qs).map dMs)) = some ((q0 :: qs).map dMs) := rfl
  have hisl : f_is_list T [.lst ((q0 :: qs).map dMs)] r = some (.sh (.bl true), r) := by
    unfold f_is_list m_is_list
    have : isiD2 "list" "tuple" (.lst ((q0 :: qs).map dMs)) = some (.sh (.bl true)) := rfl
    generalize (q0 :: qs).map dMs = tt at *
    simp [fnM, fnR, ent, mSeq, mSet, mV, mC, mOp1, mOp2, mChain, mAnd, mOr, mNot, mIf, mArgs, escAll, esc, soft, pk, hard, put, puts, mHards, mPar, mTup, mLst, mDct0, mCall, mRest, mRt, mRtN, mNx, mEx, mIte, mMut, mPut, mIt, bindT, bindTs, isAtom, isLst, isDK, plainAt, wipeE, backE, mFor, mLc, mDc, mWhile, mBk, mCt, mNo, mSl, mNoP, mPt, mJoin, mRng1, mRng2, mZip, mCallK, pickL, mMeth, mProp, mMake, mFld, fnI, fnIR, mDisp, mPairs, o2I, gtI, geI, leI, mStar, mStarT, mStarL, mAugI, mIndex, this]
  have hz : zipI [.lst ((q0 :: qs).map dMs), .lst (qs.map dMs)] = some (((q0 :: qs).zip qs).map fun q => .tup [dMs q.1, dMs q.2]) := by
    show some (zipOf ((q0 :: qs).map dMs) (qs.map dMs)) = _
    rw [zip_encV]
  have hc : cutL ((q0 :: qs).map dMs) (some 1) none = qs.map dMs := cut_from ((q0 :: qs).map dMs) 1
  have qst : ∀ q ∈ q0 :: qs, f_is_step T [netD M, .tup (dS part), dMs q] r = some (.sh (.bl true), r) := fun q h => is_step_ok (T := T) hM (hq q h).1 (hq q h).2.1 (hq q h).2.2 hr.p3 r
  have qld : ∀ q ∈ q0 :: qs, ∀ q', f_does_lead T [netD M, .tup (dS ready), .str e, dMs q, dMs q'] r = some (.sh (.bl (ldB M p ready q q')), r) := fun q h q' => does_lead_ok (T := T) hM hp (by
    have := sub_len (hq q h).2.1 fun x hx => (List.mem_filter.mp (hr.p3 x ((hq q h).2.2 x hx))).1
    omega) r
  have a1 := all_yesV (q0 :: qs) (f := fun _ => true) fun _ _ => rfl
  have a2 : allD (.lst (((q0 :: qs).zip qs).map fun z => .bl (ldB M p ready z.1 z.2))) = some (.sh (.bl (((q0 :: qs).zip qs).all fun z => ldB M p ready z.1 z.2))) := by
    have := all_bl (((q0 :: qs).zip qs).map fun z => ldB M p ready z.1 z.2)
    rw [List.map_map, List.all_map] at this
    exact this
  have hl1 : (q0 :: qs).length ≤ sizeLine := by show qs.length + 1 ≤ _; unfold sizeLine; omega
  have hl2 : ((q0 :: qs).zip qs).length ≤ sizeLine := by rw [List.length_zip]; unfold sizeLine; omega
  have hmv : mvB M p ready x (q0 :: qs) = (decide (q0.1 = some x) && ((q0 :: qs).zip qs).all fun z => ldB M p ready z.1 z.2) := rfl
  rw [hmv]
  generalize hzz : (q0 :: qs).zip qs = zz at *
  have qld2 : ∀ z ∈ zz, f_does_lead T [netD M, .tup (dS ready), .str e, dMs z.1, dMs z.2] r = some (.sh (.bl (ldB M p ready z.1 z.2)), r) := fun z hz => qld z.1 (by rw [← hzz] at hz; exact (List.of_mem_zip hz).1) z.2
  generalize hdd : q0 :: qs = dd at *
  generalize ((qs.length + 1 : Nat) : Int) = nn at hlen hne
  unfold f_is_moving m_is_moving
  generalize hL1 : mLc [6] _ _ _ _ = L1
  generalize hL2 : mLc [6, 7] _ _ _ _ = L2
  have eL1 : L1 ⟨[some ⟨netD M, false⟩, some ⟨.tup (dS ready), false⟩, some ⟨.tup (dS part), false⟩, some ⟨.str e, false⟩, some ⟨.str x, false⟩, some ⟨.lst (dd.map dMs), false⟩, none, none], r⟩ = some (.tmp (.lst (dd.map fun _ => .bl true)), ⟨[some ⟨netD M, false⟩, some ⟨.tup (dS ready), false⟩, some ⟨.tup (dS part), false⟩, some ⟨.str e, false⟩, some ⟨.str x, false⟩, some ⟨.lst (dd.map dMs), false⟩, none, none], r⟩) := by
    rw [← hL1]
    refine mLc_all dMs (fun _ => .bl true) dd ?_ (by rfl) (fun q hq => ?_) hl1
    · generalize dd.map dMs = tt at *
      simp [fnM, fnR, ent, mSeq, mSet, mV, mC, mOp1, mOp2, mChain, mAnd, mOr, mNot, mIf, mArgs, escAll, esc, soft, pk, hard, put, puts, mHards, mPar, mTup, mLst, mDct0, mCall, mRest, mRt, mRtN, mNx, mEx, mIte, mMut, mPut, mIt, bindT, bindTs, isAtom, isLst, isDK, plainAt, wipeE, backE, mFor, mLc, mDc, mWhile, mBk, mCt, mNo, mSl, mNoP, mPt, mJoin, mRng1, mRng2, mZip, mCallK, pickL, mMeth, mProp, mMake, mFld, fnI, fnIR, mDisp, mPairs, o2I, gtI, geI, leI, mStar, mStarT, mStarL, mAugI, mIndex, hit]
    · have q2 := qst q hq
      generalize dd.map dMs = tt at *
      simp [fnM, fnR, ent, mSeq, mSet, mV, mC, mOp1, mOp2, mChain, mAnd, mOr, mNot, mIf, mArgs, escAll, esc, soft, pk, hard, put, puts, mHards, mPar, mTup, mLst, mDct0, mCall, mRest, mRt, mRtN, mNx, mEx, mIte, mMut, mPut, mIt, bindT, bindTs, isAtom, isLst, isDK, plainAt, wipeE, backE, mFor, mLc, mDc, mWhile, mBk, mCt, mNo, mSl, mNoP, mPt, mJoin, mRng1, mRng2, mZip, mCallK, pickL, mMeth, mProp, mMake, mFld, fnI, fnIR, mDisp, mPairs, o2I, gtI, geI, leI, mStar, mStarT, mStarL, mAugI, mIndex, q2]
  have eL2 : L2 ⟨[some ⟨netD M, false⟩, some ⟨.tup (dS ready), false⟩, some ⟨.tup (dS part), false⟩, some ⟨.str e, false⟩, some ⟨.str x, false⟩, some ⟨.lst (dd.map dMs), false⟩, none, none], r⟩ = some (.tmp (.lst (zz.map fun z => .bl (ldB M p ready z.1 z.2))), ⟨[some ⟨netD M, false⟩, some ⟨.tup (dS ready), false⟩, some ⟨.tup (dS part), false⟩, some ⟨.str e, false⟩, some ⟨.str x, false⟩, some ⟨.lst (dd.map dMs), false⟩, none, none], r⟩) := by
    rw [← hL2]
    refine mLc_all (fun z : Mst × Mst => .tup [dMs z.1, dMs z.2]) (fun z => .bl (ldB M p ready z.1 z.2)) zz ?_ (by rfl) (fun z hz => ?_) hl2
    · generalize qs.map dMs = t1 at *
      generalize dd.map dMs = tt at *
      simp [fnM, fnR, ent, mSeq, mSet, mV, mC, mOp1, mOp2, mChain, mAnd, mOr, mNot, mIf, mArgs, escAll, esc, soft, pk, hard, put, puts, mHards, mPar, mTup, mLst, mDct0, mCall, mRest, mRt, mRtN, mNx, mEx, mIte, mMut, mPut, mIt, bindT, bindTs, isAtom, isLst, isDK, plainAt, wipeE, backE, mFor, mLc, mDc, mWhile, mBk, mCt, mNo, mSl, mNoP, mPt, mJoin, mRng1, mRng2, mZip, mCallK, pickL, mMeth, mProp, mMake, mFld, fnI, fnIR, mDisp, mPairs, o2I, gtI, geI, leI, mStar, mStarT, mStarL, mAugI, mIndex, mZip, hz, cutD, hc]
    · have q2 := qld2 z hz
      generalize dd.map dMs = tt at *
      simp [fnM, fnR, ent, mSeq, mSet, mV, mC, mOp1, mOp2, mChain, mAnd, mOr, mNot, mIf, mArgs, escAll, esc, soft, pk, hard, put, puts, mHards, mPar, mTup, mLst, mDct0, mCall, mRest, mRt, mRtN, mNx, mEx, mIte, mMut, mPut, mIt, bindT, bindTs, isAtom, isLst, isDK, plainAt, wipeE, backE, mFor, mLc, mDc, mWhile, mBk, mCt, mNo, mSl, mNoP, mPt, mJoin, mRng1, mRng2, mZip, mCallK, pickL, mMeth, mProp, mMake, mFld, fnI, fnIR, mDisp, mPairs, o2I, gtI, geI, leI, mStar, mStarT, mStarL, mAugI, mIndex, q2]
  generalize dd.map dMs = tt at *
  cases hd : decide (q0.1 = some x) with
  | false =>
    rw [hd] at hne2
    simp [fnM, fnR, ent, mSeq, mSet, mV, mC, mOp1, mOp2, mChain, mAnd, mOr, mNot, mIf, mArgs, escAll, esc, soft, pk, hard, put, puts, mHards, mPar, mTup, mLst, mDct0, mCall, mRest, mRt, mRtN, mNx, mEx, mIte, mMut, mPut, mIt, bindT, bindTs, isAtom, isLst, isDK, plainAt, wipeE, backE, mFor, mLc, mDc, mWhile, mBk, mCt, mNo, mSl, mNoP, mPt, mJoin, mRng1, mRng2, mZip, mCallK, pickL, mMeth, mProp, mMake, mFld, fnI, fnIR, mDisp, mPairs, o2I, gtI, geI, leI, mStar, mStarT, mStarL, mAugI, mIndex, List.replicate, q1, q4, q5, hisl, hlen, hne, eL1, a1, h0, h00, hne2]
  | true =>
    rw [hd] at hne2
    simp [fnM, fnR, ent, mSeq, mSet, mV, mC, mOp1, mOp2, mChain, mAnd, mOr, mNot, mIf, mArgs, escAll, esc, soft, pk, hard, put, puts, mHards, mPar, mTup, mLst, mDct0, mCall, mRest, mRt, mRtN, mNx, mEx, mIte, mMut, mPut, mIt, bindT, bindTs, isAtom, isLst, isDK, plainAt, wipeE, backE, mFor, mLc, mDc, mWhile, mBk, mCt, mNo, mSl, mNoP, mPt, mJoin, mRng1, mRng2, mZip, mCallK, pickL, mMeth, mProp, mMake, mFld, fnI, fnIR, mDisp, mPairs, o2I, gtI, geI, leI, mStar, mStarT, mStarL, mAugI, mIndex, List.replicate, q1, q4, q5, hisl, hlen, hne, eL1, a1, h0, h00, hne2, eL2, a2]
end
end RW
namespace RW
open PySem L2 Gr
/-! ### three nodes in a ring that needs them all -/
def rT (a b c e : Str) : Tab × Tab := ([(a, some e), (b, some e), (c, some e)], [(a, some b), (b, some c), (c, some a)])
def threeM (a b c e : Str) : Mod := ⟨[(e, rT a b c e)], sortS [a, b, c], [], []⟩
section
variable {a b c e : Str} (hab : a ≠ b) (hac : a ≠ c) (hbc : b ≠ c) (hae : a ≠ e) (hbe : b ≠ e) (hce : c ≠ e)
include hab hac hbc in
theorem three_nd : (sortS [a, b, c]).Nodup := sortS_nd (by simp [hab, hac, hbc])
include hab hac hbc hae hbe hce in
theorem three_ok (ha : isName a) (hb : isName b) (hc : isName c) (he : isName e) : ModOk (threeM a b c e) := by
  have hl : (sortS [a, b, c]).length = 3 := sortS_len _
  have ma : a ∈ sortS [a, b, c] := mem_three.mpr (.inl rfl)
  have mb : b ∈ sortS [a, b, c] := mem_three.mpr (.inr (.inl rfl))
  have mc : c ∈ sortS [a, b, c] := mem_three.mpr (.inr (.inr rfl))
  have hrow : ∀ p ∈ (threeM a b c e).rows, p = (e, rT a b c e) := fun p hp => List.mem_singleton.mp hp
  have hperm : [a, b, c].Perm (sortS [a, b, c]) := (sortS_perm _).symm
  refine ⟨⟨by show 0 < 1; omega, by show 1 ≤ 2; omega, by show ([e] : List Str).Nodup; simp, fun p hp => by rw [hrow p hp]; exact he, fun p hp => ?_, fun p hp => ?_, by show 0 < (sortS [a, b, c]).length; omega, by show (sortS [a, b, c]).length ≤ 6; omega, three_nd hab hac hbc, sortS_pw _, fun x hx => ?_, by show ([] : List Str).Nodup; simp, up_nil, (fun x hx => by cases hx), by show ([] : List Str).Nodup; simp, by show 0 ≤ 2; omega, fun x hx => by cases hx⟩, up_one e⟩
  · rw [hrow p hp]
    show e ∉ sortS [a, b, c]
    rw [mem_three]
    rintro (z | z | z)
    · exact hae z.symm
    · exact hbe z.symm
    · exact hce z.symm
  · rw [hrow p hp]
    constructor
    · refine ⟨hperm, fun q hq => ?_⟩
      have hq : q ∈ [(a, some e), (b, some e), (c, some e)] := hq
      rcases List.mem_cons.mp hq with rfl | hq
      · exact .inr (.inl rfl)
      · rcases List.mem_cons.mp hq with rfl | hq
        · exact .inr (.inl rfl)
        · rw [List.mem_singleton.mp hq]; exact .inr (.inl rfl)
    · refine ⟨hperm, fun q hq => ?_⟩
      have hq : q ∈ [(a, some b), (b, some c), (c, some a)] := hq
      rcases List.mem_cons.mp hq with rfl | hq
      · exact .inr (.inr ⟨b, rfl, mb, Ne.symm hab⟩)
      · rcases List.mem_cons.mp hq with rfl | hq
        · exact .inr (.inr ⟨c, rfl, mc, Ne.symm hbc⟩)
        · rw [List.mem_singleton.mp hq]; exact .inr (.inr ⟨a, rfl, ma, hac⟩)
  · rcases mem_three.mp hx with rfl | rfl | rfl <;> assumption
include hab hac hbc in
theorem rT_look : (look (rT a b c e).1 a = some e ∧ look (rT a b c e).1 b = some e ∧ look (rT a b c e).1 c = some e) ∧ look (rT a b c e).2 a = some b ∧ look (rT a b c e).2 b = some c ∧ look (rT a b c e).2 c = some a :=
  ⟨look3 hab hac hbc, look3 hab hac hbc⟩
include hab hac hbc hae hbe hce in
theorem three_chg : changing (threeM a b c e) = sortS [a, b, c] := by
  obtain ⟨⟨l1, l2, l3⟩, l4, l5, l6⟩ := rT_look (e := e) hab hac hbc
  have key : ∀ x ∈ sortS [a, b, c], chg (threeM a b c e) x = true := fun x hx => by
    rcases mem_three.mp hx with rfl | rfl | rfl
    · show (!decide (look (rT x b c e).1 x = look (rT x b c e).2 x) || false) = true
      rw [l1, l4]; simp [Ne.symm hbe]
    · show (!decide (look (rT a x c e).1 x = look (rT a x c e).2 x) || false) = true
      rw [l2, l5]; simp [Ne.symm hce]
    · show (!decide (look (rT a b x e).1 x = look (rT a b x e).2 x) || false) = true
      rw [l3, l6]; simp [Ne.symm hae]
  exact List.filter_eq_self.mpr key
include hab hac hbc hae hbe hce in
theorem three_in : inP (sortS [a, b, c]) (some a) = true ∧ inP (sortS [a, b, c]) (some b) = true ∧ inP (sortS [a, b, c]) (some c) = true ∧ inP (sortS [a, b, c]) (some e) = false := by
  refine ⟨?_, ?_, ?_, ?_⟩
  · exact decide_eq_true (mem_three.mpr (.inl rfl))
  · exact decide_eq_true (mem_three.mpr (.inr (.inl rfl)))
  · exact decide_eq_true (mem_three.mpr (.inr (.inr rfl)))
  · refine decide_eq_false fun z => ?_
    rcases mem_three.mp z with z | z | z
    · exact hae z.symm
    · exact hbe z.symm
    · exact hce z.symm
/- a node's steps: its new way's node if it is done or in the round -/
include hab hac hbc hae hbe hce in
theorem three_nx {ready part : List Str} : (∀ x ∈ sortS [a, b, c], x ∉ ready → x ∉ part → nx (webOf (sortS [a, b, c]) (rT a b c e) ready part) x = []) ∧
    (a ∈ ready ∨ a ∈ part → nx (webOf (sortS [a, b, c]) (rT a b c e) ready part) a = [b]) ∧ (b ∈ ready ∨ b ∈ part → nx (webOf (sortS [a, b, c]) (rT a b c e) ready part) b = [c]) ∧ (c ∈ ready ∨ c ∈ part → nx (webOf (sortS [a, b, c]) (rT a b c e) ready part) c = [a]) := by
  obtain ⟨⟨l1, l2, l3⟩, l4, l5, l6⟩ := rT_look (e := e) hab hac hbc
  obtain ⟨i1, i2, i3, i4⟩ := three_in hab hac hbc hae hbe hce
  have old : ∀ x ∈ sortS [a, b, c], look (rT a b c e).1 x = some e := fun x hx => by
    rcases mem_three.mp hx with rfl | rfl | rfl <;> assumption
  have key : ∀ x ∈ sortS [a, b, c], ∀ y, look (rT a b c e).2 x = some y → y ≠ e → inP (sortS [a, b, c]) (some y) = true → (x ∈ ready ∨ x ∈ part) → nx (webOf (sortS [a, b, c]) (rT a b c e) ready part) x = [y] := fun x hx y hy hne hin h => by
    rw [nxw hx]
    by_cases h1 : x ∈ ready
    · rw [sp_ready h1, hy]; simp [hin, unO]
    · rw [sp_part h1 (h.resolve_left h1) (by rw [hy, old x hx]; simpa using hne), hy, old x hx]; simp [hin, i4, unO]
  refine ⟨fun x hx h1 h2 => ?_, key a (mem_three.mpr (.inl rfl)) b l4 hbe i2, key b (mem_three.mpr (.inr (.inl rfl))) c l5 hce i3, key c (mem_three.mpr (.inr (.inr rfl))) a l6 hae i1⟩
  rw [nxw hx, sp_old h1 h2, old x hx]
  simp [i4]
/- the ring of three, told from a node -/
include hab hac hbc in
theorem three_ring {W : Web} (hk : ∀ x, x ∈ kW W ↔ x = a ∨ x = b ∨ x = c) (hl : (kW W).length = 3) (ha : nx W a = [b]) (hb : nx W b = [c]) (hc : nx W c = [a]) (h1 : ltS a b) (h2 : ltS a c) : RingW W [a, b, c] ∧ ∀ q, RingW W q → q = [a, b, c] := by
  refine ⟨⟨⟨⟨⟨by rw [ha]; simp, by rw [hb]; simp, trivial⟩, by simp [hab, hac, hbc], ⟨a, [b, c], rfl, fun x hx => ?_⟩⟩, ⟨a, [b, c], c, rfl, rfl, by rw [hc]; simp⟩⟩, fun x hx => by rw [hk]; simpa using hx⟩, fun q hq => ?_⟩
  · rcases List.mem_cons.mp hx with rfl | hx
    · exact h1
    · rw [List.mem_singleton.mp hx]; exact h2
  have hin := hq.2
  obtain ⟨x, l, z, rfl, hlt, hch, hnd, hz, hbk⟩ := ring_shape hq
  have hx := (hk x).mp (hin x List.mem_cons_self)
  match l, hlt, hch, hnd, hz, hbk, hin with
  | [], hlt, hch, hnd, hz, hbk, hin =>
    have hz : x = z := by simpa using hz
    subst hz
    rcases hx with rfl | rfl | rfl
    · rw [ha] at hbk; exact (hab (List.mem_singleton.mp hbk)).elim
    · rw [hb] at hbk; exact (hbc (List.mem_singleton.mp hbk)).elim
    · rw [hc] at hbk; exact (hac (List.mem_singleton.mp hbk).symm).elim
  | [y], hlt, hch, hnd, hz, hbk, hin =>
    have hz : y = z := by simpa using hz
    subst hz
    have hy : y ∈ nx W x := hch.1
    rcases hx with rfl | rfl | rfl
    · rw [ha] at hy; rw [List.mem_singleton.mp hy, hb] at hbk; exact (hac (List.mem_singleton.mp hbk)).elim
    · rw [hb] at hy; rw [List.mem_singleton.mp hy, hc] at hbk; exact (hab (List.mem_singleton.mp hbk).symm).elim
    · rw [hc] at hy; rw [List.mem_singleton.mp hy, ha] at hbk; exact (hbc (List.mem_singleton.mp hbk).symm).elim
  | [y, w], hlt, hch, hnd, hz, hbk, hin =>
    have hy : y ∈ nx W x := hch.1
    have hw : w ∈ nx W y := hch.2.1
    have l1 := hlt y (by simp)
    have l2 := hlt w (by simp)
    rcases hx with rfl | rfl | rfl
    · rw [ha] at hy; rw [List.mem_singleton.mp hy, hb] at hw
      rw [List.mem_singleton.mp hy, List.mem_singleton.mp hw]
    · rw [hb] at hy; rw [List.mem_singleton.mp hy, hc] at hw
      rw [List.mem_singleton.mp hw] at l2
      exact (ltS_lin.irr _ (ltS_lin.tr h1 l2)).elim
    · rw [hc] at hy
      rw [List.mem_singleton.mp hy] at l1
      exact (ltS_lin.irr _ (ltS_lin.tr h2 l1)).elim
  | y :: w :: v :: l, hlt, hch, hnd, hz, hbk, hin =>
    have := nodup_len hnd hin
    simp [hl] at this
/-- the ring as the law tells it -/
def dueR (a b c : Str) : List Str := if ltS a b then (if ltS a c then [a, b, c] else [c, a, b]) else (if ltS b c then [b, c, a] else [c, a, b])
include hab hac hbc in
theorem due_ring {W : Web} (hk : ∀ x, x ∈ kW W ↔ x = a ∨ x = b ∨ x = c) (hl : (kW W).length = 3) (ha : nx W a = [b]) (hb : nx W b = [c]) (hc : nx W c = [a]) : RingW W (dueR a b c) ∧ ∀ q, RingW W q → q = dueR a b c := by
  have lt' : ∀ {x y : Str}, x ≠ y → ¬ ltS x y → ltS y x := fun h h2 => (ltS_lin.tri _ _).elim (fun z => (h2 z).elim) fun z => z.elim (fun z => (h z).elim) id
  unfold dueR
  split
  · rename_i h1
    split
    · rename_i h2
      exact three_ring hab hac hbc hk hl ha hb hc h1 h2
    · rename_i h2
      have h3 := lt' hac h2
      exact three_ring (Ne.symm hac) (Ne.symm hbc) hab (fun x => by rw [hk]; constructor <;> rintro (z | z | z) <;> simp [z]) hl hc ha hb h3 (ltS_lin.tr h3 h1)
  · rename_i h1
    have h1 := lt' hab h1
    split
    · rename_i h2
      exact three_ring hbc (Ne.symm hab) (Ne.symm hac) (fun x => by rw [hk]; constructor <;> rintro (z | z | z) <;> simp [z]) hl hb hc ha h2 h1
    · rename_i h2
      have h3 := lt' hbc h2
      exact three_ring (Ne.symm hac) (Ne.symm hbc) hab (fun x => by rw [hk]; constructor <;> rintro (z | z | z) <;> simp [z]) hl hc ha hb (ltS_lin.tr h3 h1) h3
/- the least of three, and where it lies -/
include hab hac hbc in
theorem due_split : ∃ u l, sortS [a, b, c] = u :: l ∧ (∀ x ∈ l, leS u x = true) ∧ u ∈ [a, b, c] ∧ dueR a b c = [a, b, c].drop ([a, b, c].idxOf u) ++ [a, b, c].take ([a, b, c].idxOf u) := by
  have lt' : ∀ {x y : Str}, x ≠ y → ¬ ltS x y → ltS y x := fun h h2 => (ltS_lin.tri _ _).elim (fun z => (h2 z).elim) fun z => z.elim (fun z => (h z).elim) id
  have hp := sortS_pw [a, b, c]
  have hlen := sortS_len [a, b, c]
  have hm : ∀ x, x ∈ sortS [a, b, c] ↔ x = a ∨ x = b ∨ x = c := fun x => mem_three
  have hnd := three_nd hab hac hbc
  have hbb : (b == a) = false := by simpa using Ne.symm hab
  have hba : (a == b) = false := by simpa using hab
  have hca : (a == c) = false := by simpa using hac
  have hcb : (b == c) = false := by simpa using hbc
  match hs : sortS [a, b, c] with
  | [] => rw [hs] at hlen; cases hlen
  | u :: l =>
    rw [hs] at hp hm hnd
    have hp := (List.pairwise_cons.mp hp).1
    have hu := (hm u).mp List.mem_cons_self
    have hle : ∀ x, x = a ∨ x = b ∨ x = c → x ≠ u → ltS u x := fun x hx hne => by
      have hx := (hm x).mpr hx
      exact lt_of_le (hp x ((List.mem_cons.mp hx).resolve_left hne)) (Ne.symm hne)
    refine ⟨u, l, rfl, hp, by simpa using hu, ?_⟩
    rcases hu with rfl | rfl | rfl
    · have h1 := hle b (by simp) (Ne.symm hab)
      have h2 := hle c (by simp) (Ne.symm hac)
      unfold dueR
      rw [if_pos h1, if_pos h2]
      simp
    · have h1 := hle a (by simp) hab
      have h2 := hle c (by simp) (Ne.symm hbc)
      unfold dueR
      rw [if_neg fun z => ltS_lin.irr _ (ltS_lin.tr h1 z), if_pos h2]
      simp [List.idxOf_cons, hba]
    · have h1 := hle a (by simp) hac
      have h2 := hle b (by simp) hbc
      unfold dueR
      have hn1 : ¬ ltS a u := fun z => ltS_lin.irr _ (ltS_lin.tr h1 z)
      have hn2 : ¬ ltS b u := fun z => ltS_lin.irr _ (ltS_lin.tr h2 z)
      rw [if_neg hn1, if_neg hn2]
      split <;> simp [List.idxOf_cons, hca, hcb]
end
end RW
namespace RW
open PySem L2 Gr
theorem put1 (k v : D) : putE [] k v = [(k, v)] := rfl
theorem put2 {a b : Str} (h : a ≠ b) (x y : D) : putE [(.str a, x)] (.str b) y = [(.str a, x), (.str b, y)] := by simp [putE, keq, h]
theorem put3 {a b c : Str} (h : a ≠ c) (h2 : b ≠ c) (x y z : D) : putE [(.str a, x), (.str b, y)] (.str c) z = [(.str a, x), (.str b, y), (.str c, z)] := by simp [putE, keq, h, h2]
theorem neE_tup (l : List Str) : neE (.tup (dS l)) (.tup (dS l)) = some (.sh (.bl false)) := neE_dOR (some l)
theorem neE_lO (q : List (Option Str)) : neE (.lst (q.map dO)) (.lst (q.map dO)) = some (.sh (.bl false)) := by
  show neD (.lst (q.map dO)) (.lst (q.map dO)) = _
  have h : deqF 60 (.lst (q.map dO)) (.lst (q.map dO)) = some true := by
    show (if (q.map dO).length = (q.map dO).length then deqL (deqF 59) (q.map dO) (q.map dO) else some false) = _
    rw [if_pos rfl, deqL_dO 58 q q rfl]; simp
  unfold neD
  rw [h]; rfl
theorem tripV (s : List Str) (a b : Bool) : eqE (.tup [.tup (dS s), .bl a, .bl b]) (.tup [.tup (dS s), .bl a, .bl b]) = some (.sh (.bl true)) ∧ neE (.tup [.tup (dS s), .bl a, .bl b]) (.tup [.tup (dS s), .bl a, .bl b]) = some (.sh (.bl false)) := by
  have h1 : deqF 59 (.tup (dS s)) (.tup (dS s)) = some true := by
    have key : ∀ (n : Nat) (q : List Str), deqL (deqF (n + 1)) (dS q) (dS q) = some true := by
      intro n q
      induction q with
      | nil => rfl
      | cons x q ih =>
        unfold dS at ih ⊢
        rw [List.map_cons, deqL, ih]
        have hd : deqF (n + 1) (.str x) (.str x) = some true := by simp [deqF, toV, eqV]
        rw [hd]; rfl
    show (deqL (deqF 58) (dS s) (dS s)).map (fun r => r && decide ((dS s).length = (dS s).length)) = _
    rw [key 57 s]; simp
  have h2 : ∀ c : Bool, deqF 59 (.bl c) (.bl c) = some true := fun c => by cases c <;> rfl
  have h3 : deqF 60 (.tup [.tup (dS s), .bl a, .bl b]) (.tup [.tup (dS s), .bl a, .bl b]) = some true := by
    show (deqL (deqF 59) [.tup (dS s), .bl a, .bl b] [.tup (dS s), .bl a, .bl b]).map _ = _
    simp [deqL, h1, h2]
  constructor
  · show eqD _ _ = _
    simp [eqD, h3]
  · show neD _ _ = _
    simp [neD, h3]
theorem now_keys (dots : List Str) (p : Tab × Tab) (on : List Str) : (nowT dots p on).map (·.1) = dots := by
  unfold nowT; rw [List.map_map]; simp [Function.comp_def]
theorem now_look {dots : List Str} {p : Tab × Tab} {on : List Str} {x : Str} (hx : x ∈ dots) : look (nowT dots p on) x = if x ∈ on then look p.2 x else look p.1 x := by
  show ((dots.map fun x => (x, if x ∈ on then look p.2 x else look p.1 x)).lookup x).getD none = _
  rw [look_map (f := fun x => if x ∈ on then look p.2 x else look p.1 x) hx]; rfl
section
variable {a b e : Str} (hab : a ≠ b) (hae : a ≠ e) (hbe : b ≠ e)
include hab hae hbe
theorem pair_nx {ready part : List Str} : (a ∈ ready → nx (webOf (sortS [a, b]) (pT a b e) ready part) a = []) ∧ (a ∉ ready → nx (webOf (sortS [a, b]) (pT a b e) ready part) a = [b]) ∧
    (b ∈ ready ∨ b ∈ part → nx (webOf (sortS [a, b]) (pT a b e) ready part) b = [a]) ∧ (b ∉ ready → b ∉ part → nx (webOf (sortS [a, b]) (pT a b e) ready part) b = []) := by
  obtain ⟨s1, s2, s3, s4, s5, s6⟩ := pair_sp hab hae hbe (ready := ready) (part := part)
  obtain ⟨i1, i2, i3⟩ := pair_in hae hbe
  have ma : a ∈ sortS [a, b] := mem_two.mpr (.inl rfl)
  have mb : b ∈ sortS [a, b] := mem_two.mpr (.inr rfl)
  refine ⟨fun h => ?_, fun h => ?_, fun h => ?_, fun h h2 => ?_⟩
  · rw [nxw ma, s1 h]; simp [i3]
  · rw [nxw ma]
    by_cases h2 : a ∈ part
    · rw [s2 h h2]; simp [i2, i3, unO]
    · rw [s3 h h2]; simp [i2, unO]
  · rw [nxw mb]
    by_cases h1 : b ∈ ready
    · rw [s4 h1]; simp [i1, unO]
    · rw [s5 h1 (h.resolve_left h1)]; simp [i1, i3, unO]
  · rw [nxw mb, s6 h h2]; simp [i3]
omit hae hbe in
theorem two_wk {W : Web} (hk : kW W = sortS [a, b]) (hl : W.length = 2) {la lb : List Nat} (ha : nx W a = la.map fun i => if i = 0 then a else b) (hb : nx W b = lb.map fun i => if i = 0 then a else b)
    (h0 : wk (fun i => if i = 0 then la else lb) 2 0 = false) (h1 : wk (fun i => if i = 0 then la else lb) 2 1 = false) :
    rkW W = some ((kW W).map fun x => (x, ht (nx W) W.length x)) ∧ ht (nx W) W.length a = ht (fun i => if i = 0 then la else lb) 2 0 ∧ ht (nx W) W.length b = ht (fun i => if i = 0 then la else lb) 2 1 := by
  have key : ∀ i : Nat, nx W ((fun i => if i = 0 then a else b) i) = ((fun i : Nat => if i = 0 then la else lb) i).map fun i => if i = 0 then a else b := by
    intro i
    by_cases h : i = 0
    · subst h; simpa using ha
    · simpa [h] using hb
  refine ⟨rk_of fun x hx => ?_, ?_, ?_⟩
  · rw [hl]
    rw [hk] at hx
    rcases mem_two.mp hx with rfl | rfl
    · rw [← h0]; exact wk_map key 2 0
    · rw [← h1]; exact wk_map key 2 1
  · rw [hl]; exact ht_map key 2 0
  · rw [hl]; exact ht_map key 2 1
theorem pair_round {ready part : List Str} (h1 : Up ready) (h2 : ready.Nodup) (h3 : ∀ x ∈ ready, x = a ∨ x = b) (h4 : Up part) (h5 : part.Nodup) (h6 : ∀ x ∈ part, x = a ∨ x = b) (h7 : ∀ x ∈ part, x ∉ ready) (h8 : ready.length + part.length ≤ 2) : RoundOk (pairM a b e) ready part := by
  have hc := pair_chg hab hae hbe
  exact ⟨h1, h2, fun x hx => by rw [hc]; exact mem_two.mpr (h3 x hx), h4, h5, fun x hx => by rw [hc]; exact mem_two.mpr (h6 x hx), h7, by show _ ≤ (sortS [a, b]).length; rw [sortS_len]; exact h8⟩
variable {R : Type} {T : Fm R}
theorem pair_right_ok (ha : isName a) (hb : isName b) (he : isName e) (r : R) : f__law_pair_right T [.str a, .str b, .str e] r = some (.sh (.bl true), r) := by
  have hM := pairV_ok hab hae hbe ha hb he
  have hp : (e, pT a b e) ∈ (pairM a b e).rows := List.mem_singleton.mpr rfl
  have hc := pair_chg hab hae hbe
  have ma : a ∈ sortS [a, b] := mem_two.mpr (.inl rfl)
  have mb : b ∈ sortS [a, b] := mem_two.mpr (.inr rfl)
  have hdl : (sortS [a, b]).length = 2 := sortS_len _
  have m2 : ∀ x ∈ sortS [a, b], x = a ∨ x = b := fun x => mem_two.mp
  have hnd := two_nd hab
  have hup : Up (sortS [a, b]) := sortS_pw _
  have R1 : RoundOk (pairM a b e) [] (sortS [a, b]) := pair_round hab hae hbe up_nil List.nodup_nil (fun x hx => by cases hx) hup hnd m2 (fun x _ z => by cases z) (by rw [hdl]; simp)
  have R2 : RoundOk (pairM a b e) [] [b] := pair_round hab hae hbe up_nil List.nodup_nil (fun x hx => by cases hx) (up_one b) (by simp) (fun x hx => .inr (List.mem_singleton.mp hx)) (fun x _ z => by cases z) (by simp)
  have R3 : RoundOk (pairM a b e) [b] [] := pair_round hab hae hbe (up_one b) (by simp) (fun x hx => .inr (List.mem_singleton.mp hx)) up_nil List.nodup_nil (fun x hx => by cases hx) (fun x hx => by cases hx) (by simp)
  have R4 : RoundOk (pairM a b e) [] [a] := pair_round hab hae hbe up_nil List.nodup_nil (fun x hx => by cases hx) (up_one a) (by simp) (fun x hx => .inl (List.mem_singleton.mp hx)) (fun x _ z => by cases z) (by simp)
  have R5 : RoundOk (pairM a b e) [a] [b] := pair_round hab hae hbe (up_one a) (by simp) (fun x hx => .inl (List.mem_singleton.mp hx)) (up_one b) (by simp) (fun x hx => .inr (List.mem_singleton.mp hx)) (fun x hx z => hab ((List.mem_singleton.mp z).symm.trans (List.mem_singleton.mp hx))) (by simp)
  -- the net
  have qn : i_Net___init__ T [.dct false [(.str e, .tup [.dct false [(.str a, .str b), (.str b, .str e)], .dct false [(.str a, .str e), (.str b, .str a)]])], .lst [.str a], .tup []] r = some (netF (pairM a b e), r) := net_gen2 (T := T) hM (List.Perm.refl _) false true r
  have qs : sortF (.lst [.str a, .str b]) = some (.tmp (.lst (dS (sortS [a, b])))) := sort_dS (xs := [a, b]) (by simp)
  have qc : f_Net_changing T [netD (pairM a b e)] r = some (.sh (.tup (dS (sortS [a, b]))), r) := by
    have h6 := fld6 (pairM a b e)
    rw [hc] at h6
    unfold f_Net_changing m_Net_changing
    simp [fnM, fnR, ent, mSeq, mSet, mV, mC, mOp1, mOp2, mChain, mAnd, mOr, mNot, mIf, mArgs, escAll, esc, soft, pk, hard, put, puts, mHards, mPar, mTup, mLst, mDct0, mCall, mRest, mRt, mRtN, mNx, mEx, mIte, mMut, mPut, mIt, bindT, bindTs, isAtom, isLst, isDK, plainAt, wipeE, backE, mFor, mLc, mDc, mWhile, mBk, mCt, mNo, mSl, mNoP, mPt, mJoin, mRng1, mRng2, mZip, mCallK, pickL, mMeth, mProp, mMake, mFld, fnI, fnIR, mDisp, mPairs, o2I, gtI, geI, leI, mStar, mStarT, mStarL, mAugI, mIndex, List.replicate, h6]
  have nt := neE_tup (sortS [a, b])
  -- the ways
  have qw := ways_ok (T := T) hM R1 hp r
  obtain ⟨s1, s2, s3, s4, s5, s6⟩ := pair_sp hab hae hbe (ready := []) (part := sortS [a, b])
  have nw : neE (dW (webOf (pairM a b e).dots (pT a b e) [] (sortS [a, b]))) (.dct false [(.str a, .lst [.str b, .str e]), (.str b, .lst [.str e, .str a])]) = some (.sh (.bl false)) := by
    refine web_dPl (u := [(a, [some b, some e]), (b, [some e, some a])]) (by simp [hab]) (fun x hx => ?_) hdl
    rcases m2 x hx with rfl | rfl
    · rw [s2 (by simp) ma]; simp
    · rw [s5 (by simp) mb]; simp
  -- rings
  have ring_yes : ∀ {ready part : List Str}, RoundOk (pairM a b e) ready part → a ∉ ready → b ∈ ready ∨ b ∈ part → f_ring T [netD (pairM a b e), .tup (dS ready), .tup (dS part), .str e] r = some (.sh (.tup (dS (sortS [a, b]))), r) := fun hr h1 h2 => by
    obtain ⟨o, q, hb⟩ := ring_ok (T := T) hM hr hp r
    obtain ⟨n1, n2, n3, n4⟩ := pair_nx hab hae hbe (ready := _) (part := _)
    obtain ⟨t1, t2⟩ := two_ring hab (kW_web _ _ _ _) (n2 h1) (n3 h2)
    rw [best_eq hb t1 t2] at q
    exact q
  have y1 := ring_yes R1 (by simp) (.inr mb)
  have y2 := ring_yes R2 (by simp) (.inr (by simp))
  have y3 := ring_yes R3 (by simp [hab]) (.inl (by simp))
  -- no rings
  obtain ⟨n1, n2, n3, n4⟩ := pair_nx hab hae hbe (ready := []) (part := [a])
  obtain ⟨k1, k2, k3⟩ := two_wk hab (la := [1]) (lb := []) (kW_web _ _ _ _) ((len_web _ _ _ _).trans hdl) (n2 (by simp)) (n4 (by simp) (by simp [Ne.symm hab])) (by decide) (by decide)
  obtain ⟨n1', n2', n3', n4'⟩ := pair_nx hab hae hbe (ready := [a]) (part := [b])
  obtain ⟨k1', k2', k3'⟩ := two_wk hab (la := []) (lb := [0]) (kW_web _ _ _ _) ((len_web _ _ _ _).trans hdl) (n1' (by simp)) (n3' (.inr (by simp))) (by decide) (by decide)
  obtain ⟨o4, z4, hb4⟩ := ring_ok (T := T) hM R4 hp r
  obtain ⟨o5, z5, hb5⟩ := ring_ok (T := T) hM R5 hp r
  rw [best_no hb4 k1] at z4
  rw [best_no hb5 k1'] at z5
  have qr := ranks_ok (T := T) hM R4 hp r
  have e10 : ht (fun i : Nat => if i = 0 then [1] else []) 2 0 = 1 := by decide
  have e11 : ht (fun i : Nat => if i = 0 then [1] else []) 2 1 = 0 := by decide
  rw [e10] at k2
  rw [e11] at k3
  have nr := rk_dN _ (u := [(a, 1), (b, 0)]) k1 (by simp [hab]) (fun x hx => by
    rw [kW_web] at hx
    rcases m2 x hx with rfl | rfl
    · rw [k2]; simp
    · rw [k3]; simp) (by rw [kW_web]; exact hdl)
  rw [show (pairM a b e).dots = sortS [a, b] from rfl] at qr nw qw
  rw [k1] at qr
  -- led
  have l1 := led_ok (T := T) hM R3 hp (x := a) ma r
  have l2 := led_ok (T := T) hM R5 hp (x := b) mb r
  obtain ⟨t1, t2, t3, t4⟩ := pT_look (e := e) hab
  have hae' : e ∉ sortS [a, b] := fun z => (m2 _ z).elim (fun z => hae z.symm) fun z => hbe z.symm
  have w1 : walkW (nowT (sortS [a, b]) (pT a b e) ([b] ++ [])) a = [some a, some b, some a] := by
    have g1 : look (nowT (sortS [a, b]) (pT a b e) ([b] ++ [])) a = some b := by rw [now_look ma, if_neg (by simp [hab]), t1]
    have g2 : look (nowT (sortS [a, b]) (pT a b e) ([b] ++ [])) b = some a := by rw [now_look mb, if_pos (by simp), t4]
    have gk := now_keys (sortS [a, b]) (pT a b e) ([b] ++ [])
    generalize nowT (sortS [a, b]) (pT a b e) ([b] ++ []) = t at *
    unfold walkW
    simp [goW, gk, ma, mb, g1, g2, Ne.symm hab]
  have w2 : walkW (nowT (sortS [a, b]) (pT a b e) ([a] ++ [b])) b = [some b, some a, some e] := by
    have g1 : look (nowT (sortS [a, b]) (pT a b e) ([a] ++ [b])) a = some e := by rw [now_look ma, if_pos (by simp), t3]
    have g2 : look (nowT (sortS [a, b]) (pT a b e) ([a] ++ [b])) b = some a := by rw [now_look mb, if_pos (by simp), t4]
    have gk := now_keys (sortS [a, b]) (pT a b e) ([a] ++ [b])
    generalize nowT (sortS [a, b]) (pT a b e) ([a] ++ [b]) = t at *
    unfold walkW
    simp [goW, gk, ma, mb, g1, g2, hab, Ne.symm hae, Ne.symm hbe, hae']
  rw [show (pairM a b e).dots = sortS [a, b] from rfl, w1] at l1
  rw [show (pairM a b e).dots = sortS [a, b] from rfl, w2] at l2
  have nl1 := neE_lO [some a, some b, some a]
  have nl2 := neE_lO [some b, some a, some e]
  have nl3 := neE_lO [some b, some a, some b]
  -- twice
  obtain ⟨o, qt, hlas⟩ := twice_ok (T := T) hM R1 hp (x := b) mb r
  have ht : ∃ m, f_twice T [netD (pairM a b e), .tup [], .tup (dS (sortS [a, b])), .str e, .str b] r = some (.tmp (.lst [.tup [.str b, m], .tup [.str a, m], .tup [.str b, m]]), r) := by
    obtain ⟨n1, n2, n3, n4⟩ := pair_nx hab hae hbe (ready := []) (part := sortS [a, b])
    have n2 := n2 (by simp)
    have n3 := n3 (.inr mb)
    rw [show (pairM a b e).dots = sortS [a, b] from rfl] at hlas
    have hwl := (len_web (sortS [a, b]) (pT a b e) [] (sortS [a, b])).trans hdl
    generalize webOf (sortS [a, b]) (pT a b e) [] (sortS [a, b]) = W at *
    cases o with
    | none =>
      have hw : wk (nx W) W.length b = false := hlas
      rw [hwl] at hw
      simp [wk, n2, n3] at hw
    | some l =>
      obtain ⟨p, x, rfl, hch, hpn, hh, hx, _⟩ := hlas
      refine ⟨.tup (dS (momP (pT a b e).2 (sortS [a, b]) (p ++ [x]))), ?_⟩
      suffices h : p ++ [x] = [b, a, b] by
        rw [h] at qt ⊢
        exact qt
      match p, hch, hpn, hh, hx with
      | [], _, _, hh, _ => cases hh
      | [u], hch, hpn, hh, hx =>
        have hu : u = b := by simpa using hh
        subst hu
        have hx : x = u := by simpa using hx
        subst hx
        have hch : x ∈ nx W x := hch.1
        rw [n3] at hch
        exact (hab (List.mem_singleton.mp hch).symm).elim
      | u :: v :: p, hch, hpn, hh, hx =>
        have hu : u = b := by simpa using hh
        subst hu
        have hv : v ∈ nx W u := hch.1
        rw [n3] at hv
        have hv := List.mem_singleton.mp hv
        subst hv
        match p, hch, hpn with
        | [], hch, hpn =>
          have hx2 : x ∈ nx W v := hch.2.1
          rw [n2] at hx2
          rw [List.mem_singleton.mp hx2]; rfl
        | w :: p, hch, hpn =>
          have hw : w ∈ nx W v := hch.2.1
          rw [n2] at hw
          have hw := List.mem_singleton.mp hw
          subst hw
          simp at hpn
  obtain ⟨m, qt⟩ := ht
  -- moving packets
  have hmo : ∀ q ∈ [((some a, []) : Mst), (some b, sortS [a, b]), (some a, sortS [a, b]), (some e, sortS [a, b])], Up q.2 ∧ q.2.Nodup ∧ ∀ x ∈ q.2, x ∈ sortS [a, b] := by
    intro q hq
    simp at hq
    rcases hq with rfl | rfl | rfl | rfl
    · exact ⟨up_nil, List.nodup_nil, fun x hx => by cases hx⟩
    · exact ⟨hup, hnd, fun x hx => hx⟩
    · exact ⟨hup, hnd, fun x hx => hx⟩
    · exact ⟨hup, hnd, fun x hx => hx⟩
  have v1 := is_moving_ok (T := T) hM R1 hp (x := a) ma (q0 := (some a, [])) (qs := [(some b, sortS [a, b]), (some a, sortS [a, b]), (some e, sortS [a, b])]) hmo (by simp) r
  have v2 := is_moving_ok (T := T) hM R1 hp (x := a) ma (q0 := (some e, sortS [a, b])) (qs := [(some a, sortS [a, b]), (some b, sortS [a, b]), (some a, [])]) (fun q hq => hmo q (by
    simp at hq ⊢
    rcases hq with h | h | h | h <;> simp [h])) (by simp) r
  have e1 : mvB (pairM a b e) (pT a b e) [] a [(some a, []), (some b, sortS [a, b]), (some a, sortS [a, b]), (some e, sortS [a, b])] = true := by
    have c1 : look (nowT (sortS [a, b]) (pT a b e) ([] ++ [])) a = some b := by rw [now_look ma, if_neg (by simp), t1]
    have c2 : look (nowT (sortS [a, b]) (pT a b e) ([] ++ sortS [a, b])) b = some a := by rw [now_look mb, if_pos (by simpa using mb), t4]
    have c3 : look (nowT (sortS [a, b]) (pT a b e) ([] ++ sortS [a, b])) a = some e := by rw [now_look ma, if_pos (by simpa using ma), t3]
    have hd : (pairM a b e).dots = sortS [a, b] := rfl
    simp only [List.nil_append] at c1 c2 c3
    simp [mvB, ldB, hd, ma, mb, c1, c2, c3]
  have e2 : mvB (pairM a b e) (pT a b e) [] a [(some e, sortS [a, b]), (some a, sortS [a, b]), (some b, sortS [a, b]), (some a, [])] = false := by
    simp [mvB, Ne.symm hae]
  rw [e1] at v1
  rw [e2] at v2
  have hnD : D.obj 0 (netF (pairM a b e)) = netD (pairM a b e) := rfl
  have eP : ∀ c, mProp 0 (f_Net_changing T) (mV 3) ⟨[some ⟨.str a, false⟩, some ⟨.str b, false⟩, some ⟨.str e, false⟩, some ⟨netD (pairM a b e), c⟩, some ⟨.tup (dS (sortS [a, b])), false⟩, none, none], r⟩ = some (.sh (.tup (dS (sortS [a, b]))), ⟨[some ⟨.str a, false⟩, some ⟨.str b, false⟩, some ⟨.str e, false⟩, some ⟨netD (pairM a b e), false⟩, some ⟨.tup (dS (sortS [a, b])), false⟩, none, none], r⟩) := by
    intro c
    rw [← hnD] at qc ⊢
    generalize netF (pairM a b e) = nf at *
    cases c <;> simp [fnM, fnR, ent, mSeq, mSet, mV, mC, mOp1, mOp2, mChain, mAnd, mOr, mNot, mIf, mArgs, escAll, esc, soft, pk, hard, put, puts, mHards, mPar, mTup, mLst, mDct0, mCall, mRest, mRt, mRtN, mNx, mEx, mIte, mMut, mPut, mIt, bindT, bindTs, isAtom, isLst, isDK, plainAt, wipeE, backE, mFor, mLc, mDc, mWhile, mBk, mCt, mNo, mSl, mNoP, mPt, mJoin, mRng1, mRng2, mZip, mCallK, pickL, mMeth, mProp, mMake, mFld, fnI, fnIR, mDisp, mPairs, o2I, gtI, geI, leI, mStar, mStarT, mStarL, mAugI, mIndex, qc]
  generalize netF (pairM a b e) = nf at *
  generalize netD (pairM a b e) = nd at *
  generalize hB : sortS [a, b] = B at *
  have y1 : f_ring T [nd, .tup [], .tup (dS B), .str e] r = some (.sh (.tup (dS B)), r) := y1
  have y2 : f_ring T [nd, .tup [], .tup [.str b], .str e] r = some (.sh (.tup (dS B)), r) := y2
  have y3 : f_ring T [nd, .tup [.str b], .tup [], .str e] r = some (.sh (.tup (dS B)), r) := y3
  have z4 : f_ring T [nd, .tup [], .tup [.str a], .str e] r = some (.sh .non, r) := z4
  have z5 : f_ring T [nd, .tup [.str a], .tup [.str b], .str e] r = some (.sh .non, r) := z5
  have qw : f_ways T [nd, .tup [], .tup (dS B), .str e] r = some (.tmp (dW (webOf B (pT a b e) [] B)), r) := qw
  generalize dW (webOf B (pT a b e) [] B) = dw at *
  have qr : f_ranks T [nd, .tup [], .tup [.str a], .str e] r = some (.tmp (dT dN ((kW (webOf B (pT a b e) [] [a])).map fun x => (x, ht (nx (webOf B (pT a b e) [] [a])) (webOf B (pT a b e) [] [a]).length x))), r) := qr
  generalize dT dN ((kW (webOf B (pT a b e) [] [a])).map fun x => (x, ht (nx (webOf B (pT a b e) [] [a])) (webOf B (pT a b e) [] [a]).length x)) = dr at *
  have nr : neE dr (.dct false [(.str a, .int 1), (.str b, .int 0)]) = some (.sh (.bl false)) := nr
  have l1 : f_led T [nd, .tup [.str b], .tup [], .str e, .str a] r = some (.tmp (.lst [.str a, .str b, .str a]), r) := l1
  have l2 : f_led T [nd, .tup [.str a], .tup [.str b], .str e, .str b] r = some (.tmp (.lst [.str b, .str a, .str e]), r) := l2
  have nl1 : neE (.lst [.str a, .str b, .str a]) (.lst [.str a, .str b, .str a]) = some (.sh (.bl false)) := nl1
  have nl2 : neE (.lst [.str b, .str a, .str e]) (.lst [.str b, .str a, .str e]) = some (.sh (.bl false)) := nl2
  have nl3 : neE (.lst [.str b, .str a, .str b]) (.lst [.str b, .str a, .str b]) = some (.sh (.bl false)) := nl3
  have v1 : f_is_moving T [nd, .tup [], .tup (dS B), .str e, .str a, .lst [.tup [.str a, .tup []], .tup [.str b, .tup (dS B)], .tup [.str a, .tup (dS B)], .tup [.str e, .tup (dS B)]]] r = some (.sh (.bl true), r) := v1
  have v2 : f_is_moving T [nd, .tup [], .tup (dS B), .str e, .str a, .lst [.tup [.str e, .tup (dS B)], .tup [.str a, .tup (dS B)], .tup [.str b, .tup (dS B)], .tup [.str a, .tup []]]] r = some (.sh (.bl false), r) := v2
  have n0 : notN .non = some (.sh (.bl false)) := rfl
  unfold f__law_pair_right m__law_pair_right
  generalize mProp 0 (f_Net_changing T) (mV 3) = P at *
  generalize hL : mLc _ _ _ _ _ = L
  have eL : ∀ c, L ⟨[some ⟨.str a, false⟩, some ⟨.str b, false⟩, some ⟨.str e, false⟩, some ⟨nd, c⟩, some ⟨.tup (dS B), false⟩, none, none], r⟩ = some (.tmp (.lst [.str b, .str a, .str b]), ⟨[some ⟨.str a, false⟩, some ⟨.str b, false⟩, some ⟨.str e, false⟩, some ⟨nd, false⟩, some ⟨.tup (dS B), false⟩, none, none], r⟩) := by
    intro c
    rw [← hL]
    refine mLc_all (fun x : Str => .tup [.str x, m]) D.str [b, a, b] ?_ (by rfl) (fun x hx => ?_) (by unfold sizeLine; simp)
    · cases c <;> simp [fnM, fnR, ent, mSeq, mSet, mV, mC, mOp1, mOp2, mChain, mAnd, mOr, mNot, mIf, mArgs, escAll, esc, soft, pk, hard, put, puts, mHards, mPar, mTup, mLst, mDct0, mCall, mRest, mRt, mRtN, mNx, mEx, mIte, mMut, mPut, mIt, bindT, bindTs, isAtom, isLst, isDK, plainAt, wipeE, backE, mFor, mLc, mDc, mWhile, mBk, mCt, mNo, mSl, mNoP, mPt, mJoin, mRng1, mRng2, mZip, mCallK, pickL, mMeth, mProp, mMake, mFld, fnI, fnIR, mDisp, mPairs, o2I, gtI, geI, leI, mStar, mStarT, mStarL, mAugI, mIndex, qt, itemsOf]
    · simp [fnM, fnR, ent, mSeq, mSet, mV, mC, mOp1, mOp2, mChain, mAnd, mOr, mNot, mIf, mArgs, escAll, esc, soft, pk, hard, put, puts, mHards, mPar, mTup, mLst, mDct0, mCall, mRest, mRt, mRtN, mNx, mEx, mIte, mMut, mPut, mIt, bindT, bindTs, isAtom, isLst, isDK, plainAt, wipeE, backE, mFor, mLc, mDc, mWhile, mBk, mCt, mNo, mSl, mNoP, mPt, mJoin, mRng1, mRng2, mZip, mCallK, pickL, mMeth, mProp, mMake, mFld, fnI, fnIR, mDisp, mPairs, o2I, gtI, geI, leI, mStar, mStarT, mStarL, mAugI, mIndex, idx_tup2_0]
  simp [fnM, fnR, ent, mSeq, mSet, mV, mC, mOp1, mOp2, mChain, mAnd, mOr, mNot, mIf, mArgs, escAll, esc, soft, pk, hard, put, puts, mHards, mPar, mTup, mLst, mDct0, mCall, mRest, mRt, mRtN, mNx, mEx, mIte, mMut, mPut, mIt, bindT, bindTs, isAtom, isLst, isDK, plainAt, wipeE, backE, mFor, mLc, mDc, mWhile, mBk, mCt, mNo, mSl, mNoP, mPt, mJoin, mRng1, mRng2, mZip, mCallK, pickL, mMeth, mProp, mMake, mFld, fnI, fnIR, mDisp, mPairs, o2I, gtI, geI, leI, mStar, mStarT, mStarL, mAugI, mIndex, iD, kOf, keyD, put1, put2 hab, qn, qs, hnD, eP, nt, qw, nw, y1, y2, y3, z4, z5, n0, qr, nr, l1, l2, nl1, nl2, eL, nl3, v1, v2, revD, tup1, List.replicate]
end
end RW
namespace RW
open PySem L2 Gr
/-! ### the three -/
theorem any_none : ∀ tt : List (Str × Option Nat), eqAny .non (tt.map fun p => (D.str p.1, dNO p.2)) = some (tt.any fun p => p.2.isNone)
  | [] => rfl
  | p :: tt => by
    have h : deqF 8 (dNO p.2) .non = some p.2.isNone := by cases p.2 <;> rfl
    rw [List.map_cons, eqAny, any_none tt]
    show (deqF 8 (dNO p.2) .non).bind _ = _
    rw [h]; rfl
theorem inV_none (tt : List (Str × Option Nat)) : inVw .non (dT dNO tt) = some (.sh (.bl (tt.any fun p => p.2.isNone))) := by
  unfold dT
  show (eqAny .non _).map _ = _
  rw [any_none]; rfl
theorem minL_dS {u : Str} : ∀ l : List Str, (∀ x ∈ l, leS u x = true) → minL (.str u) (dS l) = .str u
  | [], _ => rfl
  | x :: l, h => by
    have hn : ¬ ltS x u := fun z => by
      have := leS_anti (h x List.mem_cons_self) (le_of_lt z)
      subst this
      exact ltS_lin.irr _ z
    have h1 : PySem.W.dataLt (pyD (.str x)) (pyD (.str u)) = false := by
      show PySem.W.dataLt (.str x) (.str u) = false
      rw [PySem.W.dataLt_str]
      exact decide_eq_false hn
    show minL (if PySem.W.dataLt (pyD (.str x)) (pyD (.str u)) = true then .str x else .str u) (dS l) = _
    rw [h1]
    exact minL_dS l fun y hy => h y (List.mem_cons_of_mem _ hy)
theorem minT_dS {u : Str} {l : List Str} (h : ∀ x ∈ l, leS u x = true) : minT (.tup (dS (u :: l))) = some (.sh (.str u)) := by
  have hok : okM ((u :: l).map PyData.str) = true := by
    unfold okM
    rw [Bool.and_eq_true, Bool.and_eq_true, List.all_eq_true, List.all_eq_true]
    refine ⟨fun p hp => ?_, fun p hp => ?_, ?_⟩
    · rw [List.all_eq_true]
      intro q hq
      obtain ⟨x, _, rfl⟩ := List.mem_map.mp hp
      obtain ⟨y, _, rfl⟩ := List.mem_map.mp hq
      simp [PySem.W.alike]
    · obtain ⟨x, _, rfl⟩ := List.mem_map.mp hp
      rfl
    · rw [depth_S]; rfl
  have ht : toPyAll (.str u :: dS l) = some ((u :: l).map PyData.str) := toPyAll_dS (u :: l)
  show (toPyAll (.str u :: dS l)).bind (fun ps => if okM ps = true then some (Vr.sh (minL (.str u) (dS l))) else none) = _
  rw [ht]
  show (if okM ((u :: l).map PyData.str) = true then some (Vr.sh (minL (.str u) (dS l))) else none) = _
  rw [if_pos hok, minL_dS l h]
theorem indexT_head (u : Str) (l : List Str) : indexT (.tup (dS (u :: l))) (.str u) = some (.sh (.int 0)) := by
  show (strsOf (dS (u :: l))).bind _ = _
  rw [strsOf_dS]
  simp [idxOfS]
section
variable {a b c e : Str} (hab : a ≠ b) (hac : a ≠ c) (hbc : b ≠ c) (hae : a ≠ e) (hbe : b ≠ e) (hce : c ≠ e)
include hab hac hbc hae hbe hce
theorem three_round {ready part : List Str} (h1 : Up ready) (h2 : ready.Nodup) (h3 : ∀ x ∈ ready, x = a ∨ x = b ∨ x = c) (h4 : Up part) (h5 : part.Nodup) (h6 : ∀ x ∈ part, x = a ∨ x = b ∨ x = c) (h7 : ∀ x ∈ part, x ∉ ready) (h8 : ready.length + part.length ≤ 3) : RoundOk (threeM a b c e) ready part := by
  have hc := three_chg hab hac hbc hae hbe hce
  exact ⟨h1, h2, fun x hx => by rw [hc]; exact mem_three.mpr (h3 x hx), h4, h5, fun x hx => by rw [hc]; exact mem_three.mpr (h6 x hx), h7, by show _ ≤ (sortS [a, b, c]).length; rw [sortS_len]; exact h8⟩
omit hac hbc hae hbe hce hab in
theorem three_wk {W : Web} (hk : ∀ x ∈ kW W, x = a ∨ x = b ∨ x = c) (hl : W.length = 3) (ha : nx W a = [b]) (hb : nx W b = [c]) (hc : nx W c = []) (hab : a ≠ b) (hac : a ≠ c) (hbc : b ≠ c) :
    rkW W = some ((kW W).map fun x => (x, ht (nx W) W.length x)) ∧ ht (nx W) W.length a = 2 ∧ ht (nx W) W.length b = 1 ∧ ht (nx W) W.length c = 0 := by
  have key : ∀ i : Nat, nx W ((fun i => if i = 0 then a else if i = 1 then b else c) i) = ((fun i : Nat => if i = 0 then [1] else if i = 1 then [2] else ([] : List Nat)) i).map fun i => if i = 0 then a else if i = 1 then b else c := by
    intro i
    by_cases h : i = 0
    · subst h; simpa using ha
    · by_cases h1 : i = 1
      · subst h1; simpa using hb
      · simpa [h, h1] using hc
  refine ⟨rk_of fun x hx => ?_, ?_, ?_, ?_⟩
  · rw [hl]
    rcases hk x hx with rfl | rfl | rfl
    · exact (wk_map key 3 0).trans (by decide)
    · exact (wk_map key 3 1).trans (by decide)
    · exact (wk_map key 3 2).trans (by decide)
  · rw [hl]; exact (ht_map key 3 0).trans (by decide)
  · rw [hl]; exact (ht_map key 3 1).trans (by decide)
  · rw [hl]; exact (ht_map key 3 2).trans (by decide)
theorem three_dep : (depT (ordT (sortS [a, b, c]) (rT a b c e).1) e).any (fun p => p.2.isNone) = false ∧ (depT (ordT (sortS [a, b, c]) (rT a b c e).2) e).any (fun p => p.2.isNone) = true := by
  obtain ⟨⟨l1, l2, l3⟩, l4, l5, l6⟩ := rT_look (e := e) hab hac hbc
  have ma : a ∈ sortS [a, b, c] := mem_three.mpr (.inl rfl)
  have mb : b ∈ sortS [a, b, c] := mem_three.mpr (.inr (.inl rfl))
  have mc : c ∈ sortS [a, b, c] := mem_three.mpr (.inr (.inr rfl))
  have me : e ∉ sortS [a, b, c] := fun z => by
    rcases mem_three.mp z with z | z | z
    · exact hae z.symm
    · exact hbe z.symm
    · exact hce z.symm
  have hlen : (sortS [a, b, c]).length = 3 := sortS_len _
  constructor
  · rw [List.any_eq_false]
    intro q hq
    obtain ⟨z, hz, rfl⟩ := List.mem_map.mp hq
    obtain ⟨x, hx, rfl⟩ := List.mem_map.mp hz
    have hk := ordT_keys (sortS [a, b, c]) (rT a b c e).1
    have hl : (ordT (sortS [a, b, c]) (rT a b c e).1).length = 3 := by unfold ordT; rw [List.length_map, hlen]
    have ho : look (ordT (sortS [a, b, c]) (rT a b c e).1) x = some e := by
      rw [ord_look hx]
      rcases mem_three.mp hx with rfl | rfl | rfl <;> assumption
    generalize ordT (sortS [a, b, c]) (rT a b c e).1 = t at *
    simp [dpt, goD, hl, hk, hx, ho, me]
  · rw [List.any_eq_true]
    refine ⟨(a, dpt (ordT (sortS [a, b, c]) (rT a b c e).2) e a), ?_, ?_⟩
    · exact List.mem_map.mpr ⟨(a, look (rT a b c e).2 a), List.mem_map.mpr ⟨a, ma, rfl⟩, rfl⟩
    · have hk := ordT_keys (sortS [a, b, c]) (rT a b c e).2
      have hl : (ordT (sortS [a, b, c]) (rT a b c e).2).length = 3 := by unfold ordT; rw [List.length_map, hlen]
      have o1 := ord_look (t := (rT a b c e).2) ma
      have o2 := ord_look (t := (rT a b c e).2) mb
      have o3 := ord_look (t := (rT a b c e).2) mc
      rw [l4] at o1
      rw [l5] at o2
      rw [l6] at o3
      generalize ordT (sortS [a, b, c]) (rT a b c e).2 = t at *
      simp [dpt, goD, hl, hk, ma, mb, mc, o1, o2, o3, hbe]
variable {R : Type} {T : Fm R}
theorem three_sound (hM : ModOk (threeM a b c e)) (r : R) : f_is_sound T [netD (threeM a b c e)] r = some (.sh (.bl false), r) := by
  have q1 := need_net_ok (T := T) (threeM a b c e) r
  have hlen : (sortS [a, b, c]).length = 3 := sortS_len _
  have q5 := fun t => depths_by_ok (T := T) (t := ordT (sortS [a, b, c]) t) (by rw [ordT_keys]; exact hM.dn) (by unfold ordT; rw [List.length_map, hlen]; omega) e r
  obtain ⟨n1, n2⟩ := three_dep hab hac hbc hae hbe hce
  have n1 := (inV_none _).trans (by rw [n1])
  have n2 := (inV_none _).trans (by rw [n2])
  have q6 := q5 (rT a b c e).1
  have q7 := q5 (rT a b c e).2
  have hf := fld1 (threeM a b c e)
  have hr : ordR (threeM a b c e) = [(e, (ordT (sortS [a, b, c]) (rT a b c e).1, ordT (sortS [a, b, c]) (rT a b c e).2))] := rfl
  have hp : pairsOf (dT dP [(e, (ordT (sortS [a, b, c]) (rT a b c e).1, ordT (sortS [a, b, c]) (rT a b c e).2))]) = some [.tup [.str e, .tup [dT dO (ordT (sortS [a, b, c]) (rT a b c e).1), dT dO (ordT (sortS [a, b, c]) (rT a b c e).2)]]] := rfl
  rw [hr] at hf
  unfold f_is_sound m_is_sound
  generalize dT dP [(e, (ordT (sortS [a, b, c]) (rT a b c e).1, ordT (sortS [a, b, c]) (rT a b c e).2))] = d0 at *
  generalize dT dNO (depT (ordT (sortS [a, b, c]) (rT a b c e).1) e) = d1 at *
  generalize dT dNO (depT (ordT (sortS [a, b, c]) (rT a b c e).2) e) = d2 at *
  generalize dT dO (ordT (sortS [a, b, c]) (rT a b c e).1) = d3 at *
  generalize dT dO (ordT (sortS [a, b, c]) (rT a b c e).2) = d4 at *
  simp [fnM, fnR, ent, mSeq, mSet, mV, mC, mOp1, mOp2, mChain, mAnd, mOr, mNot, mIf, mArgs, escAll, esc, soft, pk, hard, put, puts, mHards, mPar, mTup, mLst, mDct0, mCall, mRest, mRt, mRtN, mNx, mEx, mIte, mMut, mPut, mIt, bindT, bindTs, isAtom, isLst, isDK, plainAt, wipeE, backE, mFor, mLc, mDc, mWhile, mBk, mCt, mNo, mSl, mNoP, mPt, mJoin, mRng1, mRng2, mZip, mCallK, pickL, mMeth, mProp, mMake, mFld, fnI, fnIR, mDisp, mPairs, o2I, gtI, geI, leI, mStar, mStarT, mStarL, mAugI, mIndex, List.replicate, q1, hf, hp, forL, itemsOf, q6, q7, n1, n2]
theorem three_right_ok (ha : isName a) (hb : isName b) (hc : isName c) (he : isName e) (r : R) : f__law_three_right T [.str a, .str b, .str c, .str e] r = some (.sh (.bl true), r) := by
  have hM := three_ok hab hac hbc hae hbe hce ha hb hc he
  have hp : (e, rT a b c e) ∈ (threeM a b c e).rows := List.mem_singleton.mpr rfl
  have hch := three_chg hab hac hbc hae hbe hce
  have ma : a ∈ sortS [a, b, c] := mem_three.mpr (.inl rfl)
  have mb : b ∈ sortS [a, b, c] := mem_three.mpr (.inr (.inl rfl))
  have mc : c ∈ sortS [a, b, c] := mem_three.mpr (.inr (.inr rfl))
  have hdl : (sortS [a, b, c]).length = 3 := sortS_len _
  have m3 : ∀ x ∈ sortS [a, b, c], x = a ∨ x = b ∨ x = c := fun x => mem_three.mp
  have hnd := three_nd hab hac hbc
  have hup : Up (sortS [a, b, c]) := sortS_pw _
  have hl1 : (sortS [b, c]).length = 2 := sortS_len _
  have hl2 : (sortS [a, b]).length = 2 := sortS_len _
  have R1 : RoundOk (threeM a b c e) [] (sortS [a, b, c]) := three_round hab hac hbc hae hbe hce up_nil List.nodup_nil (fun x hx => by cases hx) hup hnd m3 (fun x _ z => by cases z) (by rw [hdl]; simp)
  have R2 : RoundOk (threeM a b c e) (sortS [a, b, c]) [] := three_round hab hac hbc hae hbe hce hup hnd m3 up_nil List.nodup_nil (fun x hx => by cases hx) (fun x hx => by cases hx) (by rw [hdl]; simp)
  have R3 : RoundOk (threeM a b c e) [a] (sortS [b, c]) := three_round hab hac hbc hae hbe hce (up_one a) (by simp) (fun x hx => .inl (List.mem_singleton.mp hx)) (sortS_pw _) (two_nd hbc) (fun x hx => .inr (mem_two.mp hx)) (fun x hx z => by
    have := List.mem_singleton.mp z
    subst this
    rcases mem_two.mp hx with h | h
    · exact hab h
    · exact hac h) (by rw [hl1]; simp)
  have R4 : RoundOk (threeM a b c e) [] (sortS [a, b]) := three_round hab hac hbc hae hbe hce up_nil List.nodup_nil (fun x hx => by cases hx) (sortS_pw _) (two_nd hab) (fun x hx => (mem_two.mp hx).elim .inl fun z => .inr (.inl z)) (fun x _ z => by cases z) (by rw [hl2]; simp)
  have qn : i_Net___init__ T [.dct false [(.str e, .tup [.dct false [(.str a, .str e), (.str b, .str e), (.str c, .str e)], .dct false [(.str a, .str b), (.str b, .str c), (.str c, .str a)]])], .tup [], .tup []] r = some (netF (threeM a b c e), r) := net_gen2 (T := T) hM (List.Perm.refl _) true true r
  have qs1 : sortF (.lst [.str a, .str b, .str c]) = some (.tmp (.lst (dS (sortS [a, b, c])))) := sort_dS (xs := [a, b, c]) (by simp)
  have qs2 : sortF (.lst [.str b, .str c]) = some (.tmp (.lst (dS (sortS [b, c])))) := sort_dS (xs := [b, c]) (by simp)
  have qs3 : sortF (.lst [.str a, .str b]) = some (.tmp (.lst (dS (sortS [a, b])))) := sort_dS (xs := [a, b]) (by simp)
  -- rings
  have key : ∀ {ready part : List Str}, RoundOk (threeM a b c e) ready part → (a ∈ ready ∨ a ∈ part) → (b ∈ ready ∨ b ∈ part) → (c ∈ ready ∨ c ∈ part) →
      f_ring T [netD (threeM a b c e), .tup (dS ready), .tup (dS part), .str e] r = some (.sh (.tup (dS (dueR a b c))), r) ∧ f_ranks T [netD (threeM a b c e), .tup (dS ready), .tup (dS part), .str e] r = some (.sh .non, r) := fun {ready part} hr h1 h2 h3 => by
    obtain ⟨o, q, hb⟩ := ring_ok (T := T) hM hr hp r
    have q2 := ranks_ok (T := T) hM hr hp r
    obtain ⟨_, n2, n3, n4⟩ := three_nx hab hac hbc hae hbe hce (ready := ready) (part := part)
    have hkk : kW (webOf (threeM a b c e).dots (rT a b c e) ready part) = sortS [a, b, c] := kW_web _ _ _ _
    obtain ⟨t1, t2⟩ := due_ring hab hac hbc (W := webOf (threeM a b c e).dots (rT a b c e) ready part) (fun x => by rw [hkk]; exact mem_three) (by rw [hkk]; exact hdl) (n2 h1) (n3 h2) (n4 h3)
    have ho := best_eq hb t1 t2
    rw [ho] at q hb
    rw [best_yes hb] at q2
    exact ⟨q, q2⟩
  obtain ⟨y1, z1⟩ := key R1 (.inr ma) (.inr mb) (.inr mc)
  obtain ⟨y2, z2⟩ := key R2 (.inl ma) (.inl mb) (.inl mc)
  obtain ⟨y3, z3⟩ := key R3 (.inl (by simp)) (.inr (mem_two.mpr (.inl rfl))) (.inr (mem_two.mpr (.inr rfl)))
  have ny := neE_tup (dueR a b c)
  -- two of them
  have nc : c ∉ sortS [a, b] := fun z => (mem_two.mp z).elim (fun z => hac z.symm) fun z => hbc z.symm
  have ma2 : a ∈ sortS [a, b] := mem_two.mpr (.inl rfl)
  have mb2 : b ∈ sortS [a, b] := mem_two.mpr (.inr rfl)
  obtain ⟨n1, n2, n3, n4⟩ := three_nx hab hac hbc hae hbe hce (ready := []) (part := sortS [a, b])
  have n2 := n2 (.inr ma2)
  have n3 := n3 (.inr mb2)
  have n1 := n1 c mc (by simp) nc
  obtain ⟨k1, k2, k3, k4⟩ := three_wk (W := webOf (sortS [a, b, c]) (rT a b c e) [] (sortS [a, b])) (a := a) (b := b) (c := c) (fun x hx => by rw [kW_web] at hx; exact m3 x hx) ((len_web _ _ _ _).trans hdl) n2 n3 n1 hab hac hbc
  obtain ⟨o4, y4, hb4⟩ := ring_ok (T := T) hM R4 hp r
  rw [best_no hb4 k1] at y4
  have z4 := ranks_ok (T := T) hM R4 hp r
  rw [show (threeM a b c e).dots = sortS [a, b, c] from rfl, k1] at z4
  have nr := rk_dN _ (u := [(a, 2), (b, 1), (c, 0)]) k1 (by simp [hab, hac, hbc]) (fun x hx => by
    rw [kW_web] at hx
    rcases m3 x hx with rfl | rfl | rfl
    · rw [k2]; simp
    · rw [k3]; simp
    · rw [k4]; simp) (by rw [kW_web]; exact hdl)
  obtain ⟨l, q6, hI, hre⟩ := reached_ok (T := T) hM R4 hp (x := a) ma r
  rw [show (threeM a b c e).dots = sortS [a, b, c] from rfl] at q6 hI hre
  have in_l : ∀ x, x = a ∨ x = b ∨ x = c → x ∈ l := fun x hx => by
    have r1 : Reach (nx (webOf (sortS [a, b, c]) (rT a b c e) [] (sortS [a, b]))) a a := .refl
    have r2 := Reach.step r1 (show b ∈ nx (webOf (sortS [a, b, c]) (rT a b c e) [] (sortS [a, b])) a by rw [n2]; simp)
    have r3 := Reach.step r2 (show c ∈ nx (webOf (sortS [a, b, c]) (rT a b c e) [] (sortS [a, b])) b by rw [n3]; simp)
    rcases hx with rfl | rfl | rfl
    · exact (hre _).mpr r1
    · exact (hre _).mpr r2
    · exact (hre _).mpr r3
  have l_in : ∀ x ∈ l, x = a ∨ x = b ∨ x = c := fun x hx => m3 x (by have := hI.sub x hx; rw [kW_web] at this; exact this)
  have hsl : sortS l = sortS [a, b, c] := sortS_of_perm (SetTx.nd_perm hI.nd (fun x hx => by simpa using l_in x hx) (nodup_len (by simp [hab, hac, hbc]) fun x hx => in_l x (by simpa using hx)))
  obtain ⟨⟨t1, t2, t3⟩, t4, t5, t6⟩ := rT_look (e := e) hab hac hbc
  have pl_c : plW (webOf (sortS [a, b, c]) (rT a b c e) [] (sortS [a, b])) c = [some e] := by rw [plW_web mc, sp_old (by simp) nc, t3]
  have pl_a : plW (webOf (sortS [a, b, c]) (rT a b c e) [] (sortS [a, b])) a = [some e, some b] := by rw [plW_web ma, sp_part (by simp) ma2 (by rw [t1, t4]; simpa using hbe), t1, t4]
  have pl_b : plW (webOf (sortS [a, b, c]) (rT a b c e) [] (sortS [a, b])) b = [some e, some c] := by rw [plW_web mb, sp_part (by simp) mb2 (by rw [t2, t5]; simpa using hce), t2, t5]
  have a1 : anyTo (webOf (sortS [a, b, c]) (rT a b c e) [] (sortS [a, b])) l (some e) = true := by
    unfold anyTo
    rw [List.any_eq_true]
    exact ⟨c, in_l c (.inr (.inr rfl)), by rw [pl_c]; simp⟩
  have a2 : anyTo (webOf (sortS [a, b, c]) (rT a b c e) [] (sortS [a, b])) l none = false := by
    unfold anyTo
    rw [List.any_eq_false]
    intro x hx
    rcases l_in x hx with rfl | rfl | rfl
    · rw [pl_a]; simp
    · rw [pl_b]; simp
    · rw [pl_c]; simp
  rw [hsl, a1, a2] at q6
  have q7 := three_sound (T := T) hab hac hbc hae hbe hce hM r
  have hnD : D.obj 0 (netF (threeM a b c e)) = netD (threeM a b c e) := rfl
  have y4 : f_ring T [netD (threeM a b c e), .tup [], .tup (dS (sortS [a, b])), .str e] r = some (.sh .non, r) := y4
  have z4 : f_ranks T [netD (threeM a b c e), .tup [], .tup (dS (sortS [a, b])), .str e] r = some (.tmp (dT dN ((kW (webOf (sortS [a, b, c]) (rT a b c e) [] (sortS [a, b]))).map fun x => (x, ht (nx (webOf (sortS [a, b, c]) (rT a b c e) [] (sortS [a, b]))) (webOf (sortS [a, b, c]) (rT a b c e) [] (sortS [a, b])).length x))), r) := z4
  generalize dT dN ((kW (webOf (sortS [a, b, c]) (rT a b c e) [] (sortS [a, b]))).map fun x => (x, ht (nx (webOf (sortS [a, b, c]) (rT a b c e) [] (sortS [a, b]))) (webOf (sortS [a, b, c]) (rT a b c e) [] (sortS [a, b])).length x)) = dr at *
  have nr : neE dr (.dct false [(.str a, .int 2), (.str b, .int 1), (.str c, .int 0)]) = some (.sh (.bl false)) := nr
  obtain ⟨u, rest, hE, hle, hu, hdue⟩ := due_split hab hac hbc
  have fmin := minT_dS hle
  have fidx := indexT_head u rest
  have fat : idxD (.tup (dS (u :: rest))) (.int 0) = some (.sh (.str u)) := by simp [idxD, idxS, dS, atI, ixN]
  rw [← hE] at fmin fidx fat
  have fi2 := index_dS hu
  have hc1 := cut_from (dS [a, b, c]) ([a, b, c].idxOf u)
  have hc2 := cut_to (dS [a, b, c]) ([a, b, c].idxOf u)
  have hlu := List.idxOf_lt_length_of_mem hu
  generalize [a, b, c].idxOf u = k at *
  rw [dS_drop] at hc1
  rw [dS_take] at hc2
  have hadd : addD (.lst (dS ([a, b, c].drop k))) (.lst (dS ([a, b, c].take k))) = some (.tmp (.lst (dS (dueR a b c)))) := by
    rw [hdue]
    have : (dS ([a, b, c].drop k)).length + (dS ([a, b, c].take k)).length ≤ sizeLine := by
      rw [dS_length, dS_length, List.length_drop, List.length_take]
      unfold sizeLine
      have : [a, b, c].length = 3 := rfl
      omega
    simp only [addD, if_pos this]
    simp [dS]
  have hrE : eqE (.tup [.tup (dS (sortS [a, b, c])), .bl true, .bl false]) (.tup [.tup (dS (sortS [a, b, c])), .bl true, .bl false]) = some (.sh (.bl true)) := (tripV _ _ _).1
  generalize netF (threeM a b c e) = nf at *
  generalize netD (threeM a b c e) = nd at *
  generalize dS ([a, b, c].drop k) = dd at *
  generalize dS ([a, b, c].take k) = dt at *
  have hc1 : cutL [.str a, .str b, .str c] (some (k : Int)) none = dd := hc1
  have hc2 : cutL [.str a, .str b, .str c] none (some (k : Int)) = dt := hc2
  have fi2 : indexD (.lst [.str a, .str b, .str c]) (.str u) = some (.sh (.int (k : Int))) := fi2
  generalize (k : Int) = kk at *
  generalize dS (dueR a b c) = du at *
  have y1 : f_ring T [nd, .tup [], .tup (dS (sortS [a, b, c])), .str e] r = some (.sh (.tup du), r) := y1
  have z1 : f_ranks T [nd, .tup [], .tup (dS (sortS [a, b, c])), .str e] r = some (.sh .non, r) := z1
  have y2 : f_ring T [nd, .tup (dS (sortS [a, b, c])), .tup [], .str e] r = some (.sh (.tup du), r) := y2
  have z2 : f_ranks T [nd, .tup (dS (sortS [a, b, c])), .tup [], .str e] r = some (.sh .non, r) := z2
  have y3 : f_ring T [nd, .tup [.str a], .tup (dS (sortS [b, c])), .str e] r = some (.sh (.tup du), r) := y3
  have z3 : f_ranks T [nd, .tup [.str a], .tup (dS (sortS [b, c])), .str e] r = some (.sh .non, r) := z3
  have q6 : f_reached T [nd, .tup [], .tup (dS (sortS [a, b])), .str e, .str a] r = some (.sh (.tup [.tup (dS (sortS [a, b, c])), .bl true, .bl false]), r) := q6
  have n0 : notN .non = some (.sh (.bl false)) := rfl
  have hiT : isTupD (.tup (dS (sortS [a, b, c]))) = true := rfl
  generalize dS (sortS [a, b, c]) = dE at *
  generalize dS (sortS [a, b]) = dA at *
  generalize dS (sortS [b, c]) = dB at *
  have htl : tupL (.lst dE) = some (.sh (.tup dE)) := rfl
  unfold f__law_three_right m__law_three_right
  simp [fnM, fnR, ent, mSeq, mSet, mV, mC, mOp1, mOp2, mChain, mAnd, mOr, mNot, mIf, mArgs, escAll, esc, soft, pk, hard, put, puts, mHards, mPar, mTup, mLst, mDct0, mCall, mRest, mRt, mRtN, mNx, mEx, mIte, mMut, mPut, mIt, bindT, bindTs, isAtom, isLst, isDK, plainAt, wipeE, backE, mFor, mLc, mDc, mWhile, mBk, mCt, mNo, mSl, mNoP, mPt, mJoin, mRng1, mRng2, mZip, mCallK, pickL, mMeth, mProp, mMake, mFld, fnI, fnIR, mDisp, mPairs, o2I, gtI, geI, leI, mStar, mStarT, mStarL, mAugI, mIndex, iD, kOf, keyD, put1, put2 hab, put3 hac hbc, qn, qs1, qs2, qs3, hnD, htl, mIxT, hiT, fmin, fidx, fat, fi2, cutD, hc1, hc2, hadd, tup1, forL, itemsOf, y1, z1, y2, z2, y3, z3, ny, n0, y4, z4, nr, q6, hrE, q7, isB, List.replicate]
end
end RW
namespace RW
open PySem L2 Gr
/-! ### a node that changes for another goal alone, and one whose new way is lost -/
def g1T (a b e : Str) : Tab × Tab := ([(a, some e), (b, some a)], [(a, some e), (b, none)])
def g2T (a b o : Str) : Tab × Tab := ([(a, some b), (b, some o)], [(a, some o), (b, some o)])
def goalM (a b e o : Str) : Mod := ⟨if ltS e o then [(e, g1T a b e), (o, g2T a b o)] else [(o, g2T a b o), (e, g1T a b e)], sortS [a, b], [], []⟩
section
variable {a b e o : Str} (hab : a ≠ b) (hae : a ≠ e) (hbe : b ≠ e) (hao : a ≠ o) (hbo : b ≠ o) (heo : e ≠ o)
theorem goal_perm : [(e, g1T a b e), (o, g2T a b o)].Perm (goalM a b e o).rows := by
  unfold goalM
  split
  · exact List.Perm.refl _
  · exact List.Perm.swap _ _ _
theorem goal_mem {p : Str × (Tab × Tab)} : p ∈ (goalM a b e o).rows ↔ p = (e, g1T a b e) ∨ p = (o, g2T a b o) := by
  rw [← (goal_perm (a := a) (b := b) (e := e) (o := o)).mem_iff]; simp
include hab in
theorem g1_look : look (g1T a b e).1 a = some e ∧ look (g1T a b e).1 b = some a ∧ look (g1T a b e).2 a = some e ∧ look (g1T a b e).2 b = none := ⟨(look2 hab).1, (look2 hab).2, (look2 hab).1, (look2 hab).2⟩
include hab in
theorem g2_look : look (g2T a b o).1 a = some b ∧ look (g2T a b o).1 b = some o ∧ look (g2T a b o).2 a = some o ∧ look (g2T a b o).2 b = some o := ⟨(look2 hab).1, (look2 hab).2, (look2 hab).1, (look2 hab).2⟩
include hab hae hbe hao hbo heo in
theorem goal_ok (ha : isName a) (hb : isName b) (he : isName e) (ho : isName o) : ModOk (goalM a b e o) := by
  have hl : (sortS [a, b]).length = 2 := sortS_len _
  have ma : a ∈ sortS [a, b] := mem_two.mpr (.inl rfl)
  have mb : b ∈ sortS [a, b] := mem_two.mpr (.inr rfl)
  have hperm : [a, b].Perm (sortS [a, b]) := (sortS_perm _).symm
  have hrl : (goalM a b e o).rows.length = 2 := (goal_perm (a := a) (b := b) (e := e) (o := o)).length_eq.symm
  have tabs : ∀ {g : Str} {u v : Option Str}, PlaceOk (sortS [a, b]) g a u → PlaceOk (sortS [a, b]) g b v → TabOk (sortS [a, b]) g [(a, u), (b, v)] := fun {g u v} h1 h2 => by
    refine ⟨hperm, fun q hq => ?_⟩
    rcases List.mem_cons.mp hq with rfl | hq
    · exact h1
    · rw [List.mem_singleton.mp hq]; exact h2
  refine ⟨⟨by omega, by omega, ?_, fun p hp => ?_, fun p hp => ?_, fun p hp => ?_, by show 0 < (sortS [a, b]).length; omega, by show (sortS [a, b]).length ≤ 6; omega, two_nd hab, sortS_pw _, fun x hx => ?_, by show ([] : List Str).Nodup; simp, up_nil, (fun x hx => by cases hx), by show ([] : List Str).Nodup; simp, by show 0 ≤ 2; omega, fun x hx => by cases hx⟩, ?_⟩
  · have := ((goal_perm (a := a) (b := b) (e := e) (o := o)).map (·.1)).nodup_iff.mp (by simp [heo])
    exact this
  · rcases goal_mem.mp hp with rfl | rfl <;> assumption
  · show p.1 ∉ sortS [a, b]
    rw [mem_two]
    rcases goal_mem.mp hp with rfl | rfl
    · exact fun z => z.elim (fun z => hae z.symm) fun z => hbe z.symm
    · exact fun z => z.elim (fun z => hao z.symm) fun z => hbo z.symm
  · rcases goal_mem.mp hp with rfl | rfl
    · exact ⟨tabs (.inr (.inl rfl)) (.inr (.inr ⟨a, rfl, ma, hab⟩)), tabs (.inr (.inl rfl)) (.inl rfl)⟩
    · exact ⟨tabs (.inr (.inr ⟨b, rfl, mb, Ne.symm hab⟩)) (.inr (.inl rfl)), tabs (.inr (.inl rfl)) (.inr (.inl rfl))⟩
  · rcases mem_two.mp hx with rfl | rfl <;> assumption
  · show Up ((goalM a b e o).rows.map (·.1))
    unfold goalM
    split
    · rename_i h
      exact List.pairwise_cons.mpr ⟨fun x hx => by rw [List.mem_singleton.mp hx]; exact le_of_lt h, up_one o⟩
    · rename_i h
      have h := (ltS_lin.tri e o).elim (fun z => (h z).elim) fun z => z.elim (fun z => (heo z).elim) id
      exact List.pairwise_cons.mpr ⟨fun x hx => by rw [List.mem_singleton.mp hx]; exact le_of_lt h, up_one e⟩
include hab hbo in
theorem goal_chg : changing (goalM a b e o) = sortS [a, b] := by
  obtain ⟨l1, l2, l3, l4⟩ := g1_look (e := e) hab
  obtain ⟨k1, k2, k3, k4⟩ := g2_look (o := o) hab
  have key : ∀ x ∈ sortS [a, b], chg (goalM a b e o) x = true := fun x hx => by
    unfold chg
    rw [List.any_eq_true]
    rcases mem_two.mp hx with rfl | rfl
    · exact ⟨_, goal_mem.mpr (.inr rfl), by rw [k1, k3]; simp [hbo]⟩
    · exact ⟨_, goal_mem.mpr (.inl rfl), by rw [l2, l4]; simp⟩
  exact List.filter_eq_self.mpr key
include hab hbo in
theorem goal_round {ready part : List Str} (h1 : Up ready) (h2 : ready.Nodup) (h3 : ∀ x ∈ ready, x = a ∨ x = b) (h4 : Up part) (h5 : part.Nodup) (h6 : ∀ x ∈ part, x = a ∨ x = b) (h7 : ∀ x ∈ part, x ∉ ready) (h8 : ready.length + part.length ≤ 2) : RoundOk (goalM a b e o) ready part := by
  have hc := goal_chg (e := e) hab hbo
  exact ⟨h1, h2, fun x hx => by rw [hc]; exact mem_two.mpr (h3 x hx), h4, h5, fun x hx => by rw [hc]; exact mem_two.mpr (h6 x hx), h7, by show _ ≤ (sortS [a, b]).length; rw [sortS_len]; exact h8⟩
theorem deq_NO (v : Option Nat) : deqF 30 (dNO v) (dNO v) = some true := by
  cases v with
  | none => rfl
  | some v => exact deq_N v
variable {R : Type} {T : Fm R}
include hab hae hbe hao hbo heo
theorem goals_right_ok (ha : isName a) (hb : isName b) (he : isName e) (ho : isName o) (r : R) : f__law_goals_right T [.str a, .str b, .str e, .str o] r = some (.sh (.bl true), r) := by
  have hM := goal_ok hab hae hbe hao hbo heo ha hb he ho
  have hp1 : (e, g1T a b e) ∈ (goalM a b e o).rows := goal_mem.mpr (.inl rfl)
  have hp2 : (o, g2T a b o) ∈ (goalM a b e o).rows := goal_mem.mpr (.inr rfl)
  have hc := goal_chg (e := e) hab hbo
  have ma : a ∈ sortS [a, b] := mem_two.mpr (.inl rfl)
  have mb : b ∈ sortS [a, b] := mem_two.mpr (.inr rfl)
  have hdl : (sortS [a, b]).length = 2 := sortS_len _
  have m2 : ∀ x ∈ sortS [a, b], x = a ∨ x = b := fun x => mem_two.mp
  have hnd := two_nd hab
  have hup : Up (sortS [a, b]) := sortS_pw _
  have hd : (goalM a b e o).dots = sortS [a, b] := rfl
  have hee : e ∉ sortS [a, b] := fun z => (m2 _ z).elim (fun z => hae z.symm) fun z => hbe z.symm
  have hoo : o ∉ sortS [a, b] := fun z => (m2 _ z).elim (fun z => hao z.symm) fun z => hbo z.symm
  obtain ⟨l1, l2, l3, l4⟩ := g1_look (e := e) hab
  obtain ⟨k1, k2, k3, k4⟩ := g2_look (o := o) hab
  have R1 : RoundOk (goalM a b e o) [] (sortS [a, b]) := goal_round hab hbo up_nil List.nodup_nil (fun x hx => by cases hx) hup hnd m2 (fun x _ z => by cases z) (by rw [hdl]; simp)
  have R2 : RoundOk (goalM a b e o) [] [b] := goal_round hab hbo up_nil List.nodup_nil (fun x hx => by cases hx) (up_one b) (by simp) (fun x hx => .inr (List.mem_singleton.mp hx)) (fun x _ z => by cases z) (by simp)
  have R3 : RoundOk (goalM a b e o) [b] [] := goal_round hab hbo (up_one b) (by simp) (fun x hx => .inr (List.mem_singleton.mp hx)) up_nil List.nodup_nil (fun x hx => by cases hx) (fun x hx => by cases hx) (by simp)
  have qn : i_Net___init__ T [.dct false [(.str e, .tup [.dct false [(.str a, .str e), (.str b, .str a)], .dct false [(.str a, .str e), (.str b, .non)]]), (.str o, .tup [.dct false [(.str a, .str b), (.str b, .str o)], .dct false [(.str a, .str o), (.str b, .str o)]])], .tup [], .tup []] r = some (netF (goalM a b e o), r) := net_gen2 (T := T) hM goal_perm true true r
  have qs : sortF (.lst [.str a, .str b]) = some (.tmp (.lst (dS (sortS [a, b])))) := sort_dS (xs := [a, b]) (by simp)
  have qc : f_Net_changing T [netD (goalM a b e o)] r = some (.sh (.tup (dS (sortS [a, b]))), r) := by
    have h6 := fld6 (goalM a b e o)
    rw [hc] at h6
    unfold f_Net_changing m_Net_changing
    simp [fnM, fnR, ent, mSeq, mSet, mV, mC, mOp1, mOp2, mChain, mAnd, mOr, mNot, mIf, mArgs, escAll, esc, soft, pk, hard, put, puts, mHards, mPar, mTup, mLst, mDct0, mCall, mRest, mRt, mRtN, mNx, mEx, mIte, mMut, mPut, mIt, bindT, bindTs, isAtom, isLst, isDK, plainAt, wipeE, backE, mFor, mLc, mDc, mWhile, mBk, mCt, mNo, mSl, mNoP, mPt, mJoin, mRng1, mRng2, mZip, mCallK, pickL, mMeth, mProp, mMake, mFld, fnI, fnIR, mDisp, mPairs, o2I, gtI, geI, leI, mStar, mStarT, mStarL, mAugI, mIndex, List.replicate, h6]
  have nt := neE_tup (sortS [a, b])
  -- the ways
  have qw1 := ways_ok (T := T) hM R1 hp1 r
  have qw2 := ways_ok (T := T) hM R1 hp2 r
  have nw1 : neE (dW (webOf (goalM a b e o).dots (g1T a b e) [] (sortS [a, b]))) (.dct false [(.str a, .lst [.str e]), (.str b, .lst [.str a, .non])]) = some (.sh (.bl false)) := by
    refine web_dPl (u := [(a, [some e]), (b, [some a, none])]) (by simp [hab]) (fun x hx => ?_) hdl
    rcases m2 x hx with rfl | rfl
    · rw [sp_same (by simp) (by rw [l1, l3]), l1]; simp
    · rw [sp_part (by simp) mb (by rw [l2, l4]; simp), l2, l4]; simp
  have nw2 : neE (dW (webOf (goalM a b e o).dots (g2T a b o) [] (sortS [a, b]))) (.dct false [(.str a, .lst [.str b, .str o]), (.str b, .lst [.str o])]) = some (.sh (.bl false)) := by
    refine web_dPl (u := [(a, [some b, some o]), (b, [some o])]) (by simp [hab]) (fun x hx => ?_) hdl
    rcases m2 x hx with rfl | rfl
    · rw [sp_part (by simp) ma (by rw [k1, k3]; simp [Ne.symm hbo]), k1, k3]; simp
    · rw [sp_same (by simp) (by rw [k2, k4]), k2]; simp
  -- led
  have ql := led_ok (T := T) hM R3 hp1 (x := b) mb r
  have w1 : walkW (nowT (sortS [a, b]) (g1T a b e) ([b] ++ [])) b = [some b, none] := by
    have g2 : look (nowT (sortS [a, b]) (g1T a b e) ([b] ++ [])) b = none := by rw [now_look mb, if_pos (by simp), l4]
    have gk := now_keys (sortS [a, b]) (g1T a b e) ([b] ++ [])
    generalize nowT (sortS [a, b]) (g1T a b e) ([b] ++ []) = t at *
    unfold walkW
    simp [goW, gk, mb, g2]
  rw [hd, w1] at ql
  have nl := neE_lO [some b, none]
  -- what packets come to
  obtain ⟨la, q1, hI1, hr1⟩ := reached_ok (T := T) hM R2 hp1 (x := b) mb r
  rw [hd] at q1 hI1 hr1
  have pa : plW (webOf (sortS [a, b]) (g1T a b e) [] [b]) a = [some e] := by rw [plW_web ma, sp_same (by simp) (by rw [l1, l3]), l1]
  have pb : plW (webOf (sortS [a, b]) (g1T a b e) [] [b]) b = [some a, none] := by rw [plW_web mb, sp_part (by simp) (by simp) (by rw [l2, l4]; simp), l2, l4]
  have nb : a ∈ nx (webOf (sortS [a, b]) (g1T a b e) [] [b]) b := nx_mem.mpr ⟨by rw [pb]; simp, by rw [kW_web]; exact ma⟩
  have in_la : ∀ x ∈ sortS [a, b], x ∈ la := fun x hx => by
    rcases m2 x hx with rfl | rfl
    · exact (hr1 _).mpr (Reach.step .refl nb)
    · exact (hr1 _).mpr .refl
  have hsl : sortS la = sortS [a, b] := sortS_of_perm (SetTx.nd_perm hI1.nd (fun x hx => by
    have := hI1.sub x hx
    rw [kW_web] at this
    simpa using m2 x this) (nodup_len (by simp [hab]) fun x hx => in_la x (mem_two.mpr (by simpa using hx))))
  have a1 : anyTo (webOf (sortS [a, b]) (g1T a b e) [] [b]) la (some e) = true := by
    unfold anyTo
    rw [List.any_eq_true]
    exact ⟨a, in_la a ma, by rw [pa]; simp⟩
  have a2 : anyTo (webOf (sortS [a, b]) (g1T a b e) [] [b]) la none = true := by
    unfold anyTo
    rw [List.any_eq_true]
    exact ⟨b, in_la b mb, by rw [pb]; simp⟩
  rw [hsl, a1, a2] at q1
  obtain ⟨lb, q2, hI2, hr2⟩ := reached_ok (T := T) hM R3 hp1 (x := b) mb r
  rw [hd] at q2 hI2 hr2
  have pb2 : plW (webOf (sortS [a, b]) (g1T a b e) [b] []) b = [none] := by rw [plW_web mb, sp_ready (by simp), l4]
  have only : ∀ y, Reach (nx (webOf (sortS [a, b]) (g1T a b e) [b] [])) b y → y = b := fun y hy => by
    induction hy with
    | refl => rfl
    | step _ h ih =>
      subst ih
      have := (nx_mem.mp h).1
      rw [pb2] at this
      simp at this
  have hlb : lb = [b] := by
    have h1 : ∀ x ∈ lb, x = b := fun x hx => only x ((hr2 x).mp hx)
    have h2 := hI2.nd
    have h3 := hI2.has
    match lb, h1, h2, h3 with
    | [x], h1, _, _ => rw [h1 x List.mem_cons_self]
    | x :: y :: l, h1, h2, _ =>
      have e1 := h1 x (by simp)
      have e2 := h1 y (by simp)
      subst e1 e2
      simp at h2
  have a3 : anyTo (webOf (sortS [a, b]) (g1T a b e) [b] []) lb (some e) = false := by
    rw [hlb]; unfold anyTo; simp [pb2]
  have a4 : anyTo (webOf (sortS [a, b]) (g1T a b e) [b] []) lb none = true := by
    rw [hlb]; unfold anyTo; simp [pb2]
  rw [a3, a4, hlb, sortS_self (up_one b)] at q2
  -- depths
  have d1 := depths_ok (T := T) hM hp1 true r
  have d2 := depths_ok (T := T) hM hp2 false r
  have hlen : ∀ t : Tab, (ordT (sortS [a, b]) t).length = 2 := fun t => by unfold ordT; rw [List.length_map, hdl]
  have dep : ∀ (t : Tab) (g : Str) (u : List (Str × Option Nat)), (u.map (·.1)).Nodup → (∀ x ∈ sortS [a, b], (x, dpt (ordT (sortS [a, b]) t) g x) ∈ u) → u.length = 2 → eqE (dT dNO (depT (ordT (sortS [a, b]) t) g)) (dT dNO u) = some (.sh (.bl true)) := fun t g u hn hx hl => by
    refine (eqE_of dNO (fun p _ => deq_NO _) hn (fun q hq => ?_) (by unfold depT; rw [List.length_map, hlen, hl])).1
    obtain ⟨z, hz, rfl⟩ := List.mem_map.mp hq
    obtain ⟨x, hx', rfl⟩ := List.mem_map.mp hz
    exact hx x hx'
  have ed1 := dep (g1T a b e).2 e [(a, some 1), (b, none)] (by simp [hab]) (fun x hx => by
    have gk := ordT_keys (sortS [a, b]) (g1T a b e).2
    have hl := hlen (g1T a b e).2
    have oa := ord_look (t := (g1T a b e).2) ma
    have ob := ord_look (t := (g1T a b e).2) mb
    rw [l3] at oa
    rw [l4] at ob
    generalize ordT (sortS [a, b]) (g1T a b e).2 = t at *
    rcases m2 x hx with rfl | rfl
    · simp [dpt, goD, hl, gk, ma, oa, hee]
    · simp [dpt, goD, hl, gk, mb, ob]) rfl
  have ed2 := dep (g2T a b o).1 o [(a, some 2), (b, some 1)] (by simp [hab]) (fun x hx => by
    have gk := ordT_keys (sortS [a, b]) (g2T a b o).1
    have hl := hlen (g2T a b o).1
    have oa := ord_look (t := (g2T a b o).1) ma
    have ob := ord_look (t := (g2T a b o).1) mb
    rw [k1] at oa
    rw [k2] at ob
    generalize ordT (sortS [a, b]) (g2T a b o).1 = t at *
    rcases m2 x hx with rfl | rfl
    · simp [dpt, goD, hl, gk, ma, mb, oa, ob, hoo]
    · simp [dpt, goD, hl, gk, mb, ob, hoo]) rfl
  have hre1 : neE (.tup [.tup (dS (sortS [a, b])), .bl true, .bl true]) (.tup [.tup (dS (sortS [a, b])), .bl true, .bl true]) = some (.sh (.bl false)) := (tripV _ _ _).2
  have hre2 : neE (.tup [.tup [.str b], .bl false, .bl true]) (.tup [.tup [.str b], .bl false, .bl true]) = some (.sh (.bl false)) := (tripV [b] _ _).2
  have hnD : D.obj 0 (netF (goalM a b e o)) = netD (goalM a b e o) := rfl
  let rD : D := .dct false [(.str e, .tup [.dct false [(.str a, .str e), (.str b, .str a)], .dct false [(.str a, .str e), (.str b, .non)]]), (.str o, .tup [.dct false [(.str a, .str b), (.str b, .str o)], .dct false [(.str a, .str o), (.str b, .str o)]])]
  have eP : ∀ c, mProp 0 (f_Net_changing T) (mV 5) ⟨[some ⟨.str a, false⟩, some ⟨.str b, false⟩, some ⟨.str e, false⟩, some ⟨.str o, false⟩, some ⟨rD, false⟩, some ⟨netD (goalM a b e o), c⟩, some ⟨.tup (dS (sortS [a, b])), false⟩], r⟩ = some (.sh (.tup (dS (sortS [a, b]))), ⟨[some ⟨.str a, false⟩, some ⟨.str b, false⟩, some ⟨.str e, false⟩, some ⟨.str o, false⟩, some ⟨rD, false⟩, some ⟨netD (goalM a b e o), false⟩, some ⟨.tup (dS (sortS [a, b])), false⟩], r⟩) := by
    intro c
    rw [← hnD] at qc ⊢
    generalize netF (goalM a b e o) = nf at *
    generalize rD = rD at *
    cases c <;> simp [fnM, fnR, ent, mSeq, mSet, mV, mC, mOp1, mOp2, mChain, mAnd, mOr, mNot, mIf, mArgs, escAll, esc, soft, pk, hard, put, puts, mHards, mPar, mTup, mLst, mDct0, mCall, mRest, mRt, mRtN, mNx, mEx, mIte, mMut, mPut, mIt, bindT, bindTs, isAtom, isLst, isDK, plainAt, wipeE, backE, mFor, mLc, mDc, mWhile, mBk, mCt, mNo, mSl, mNoP, mPt, mJoin, mRng1, mRng2, mZip, mCallK, pickL, mMeth, mProp, mMake, mFld, fnI, fnIR, mDisp, mPairs, o2I, gtI, geI, leI, mStar, mStarT, mStarL, mAugI, mIndex, qc]
  have eP : ∀ c, mProp 0 (f_Net_changing T) (mV 5) ⟨[some ⟨.str a, false⟩, some ⟨.str b, false⟩, some ⟨.str e, false⟩, some ⟨.str o, false⟩, some ⟨.dct false [(.str e, .tup [.dct false [(.str a, .str e), (.str b, .str a)], .dct false [(.str a, .str e), (.str b, .non)]]), (.str o, .tup [.dct false [(.str a, .str b), (.str b, .str o)], .dct false [(.str a, .str o), (.str b, .str o)]])], false⟩, some ⟨netD (goalM a b e o), c⟩, some ⟨.tup (dS (sortS [a, b])), false⟩], r⟩ = some (.sh (.tup (dS (sortS [a, b]))), ⟨[some ⟨.str a, false⟩, some ⟨.str b, false⟩, some ⟨.str e, false⟩, some ⟨.str o, false⟩, some ⟨.dct false [(.str e, .tup [.dct false [(.str a, .str e), (.str b, .str a)], .dct false [(.str a, .str e), (.str b, .non)]]), (.str o, .tup [.dct false [(.str a, .str b), (.str b, .str o)], .dct false [(.str a, .str o), (.str b, .str o)]])], false⟩, some ⟨netD (goalM a b e o), false⟩, some ⟨.tup (dS (sortS [a, b])), false⟩], r⟩) := eP
  clear_value rD
  have qw1 : f_ways T [netD (goalM a b e o), .tup [], .tup (dS (sortS [a, b])), .str e] r = some (.tmp (dW (webOf (goalM a b e o).dots (g1T a b e) [] (sortS [a, b]))), r) := qw1
  have qw2 : f_ways T [netD (goalM a b e o), .tup [], .tup (dS (sortS [a, b])), .str o] r = some (.tmp (dW (webOf (goalM a b e o).dots (g2T a b o) [] (sortS [a, b]))), r) := qw2
  generalize dW (webOf (goalM a b e o).dots (g1T a b e) [] (sortS [a, b])) = dw1 at *
  generalize dW (webOf (goalM a b e o).dots (g2T a b o) [] (sortS [a, b])) = dw2 at *
  have ql : f_led T [netD (goalM a b e o), .tup [.str b], .tup [], .str e, .str b] r = some (.tmp (.lst [.str b, .non]), r) := ql
  have nl : neE (.lst [.str b, .non]) (.lst [.str b, .non]) = some (.sh (.bl false)) := nl
  have q1 : f_reached T [netD (goalM a b e o), .tup [], .tup [.str b], .str e, .str b] r = some (.sh (.tup [.tup (dS (sortS [a, b])), .bl true, .bl true]), r) := q1
  have q2 : f_reached T [netD (goalM a b e o), .tup [.str b], .tup [], .str e, .str b] r = some (.sh (.tup [.tup [.str b], .bl false, .bl true]), r) := q2
  have d1 : f_depths T [netD (goalM a b e o), .str e, .bl true] r = some (.tmp (dT dNO (depT (ordT (sortS [a, b]) (g1T a b e).2) e)), r) := d1
  have d2 : f_depths T [netD (goalM a b e o), .str o, .bl false] r = some (.tmp (dT dNO (depT (ordT (sortS [a, b]) (g2T a b o).1) o)), r) := d2
  generalize dT dNO (depT (ordT (sortS [a, b]) (g1T a b e).2) e) = dd1 at *
  generalize dT dNO (depT (ordT (sortS [a, b]) (g2T a b o).1) o) = dd2 at *
  have ed1 : eqE dd1 (.dct false [(.str a, .int 1), (.str b, .non)]) = some (.sh (.bl true)) := ed1
  have ed2 : eqE dd2 (.dct false [(.str a, .int 2), (.str b, .int 1)]) = some (.sh (.bl true)) := ed2
  generalize netF (goalM a b e o) = nf at *
  generalize netD (goalM a b e o) = nd at *
  generalize dS (sortS [a, b]) = dB at *
  unfold f__law_goals_right m__law_goals_right
  generalize mProp 0 (f_Net_changing T) (mV 5) = P at *
  simp [fnM, fnR, ent, mSeq, mSet, mV, mC, mOp1, mOp2, mChain, mAnd, mOr, mNot, mIf, mArgs, escAll, esc, soft, pk, hard, put, puts, mHards, mPar, mTup, mLst, mDct0, mCall, mRest, mRt, mRtN, mNx, mEx, mIte, mMut, mPut, mIt, bindT, bindTs, isAtom, isLst, isDK, plainAt, wipeE, backE, mFor, mLc, mDc, mWhile, mBk, mCt, mNo, mSl, mNoP, mPt, mJoin, mRng1, mRng2, mZip, mCallK, pickL, mMeth, mProp, mMake, mFld, fnI, fnIR, mDisp, mPairs, o2I, gtI, geI, leI, mStar, mStarT, mStarL, mAugI, mIndex, iD, kOf, keyD, put1, put2 hab, put2 heo, qn, qs, hnD, eP, nt, qw1, qw2, nw1, nw2, ql, nl, q1, q2, hre1, hre2, d1, d2, ed1, ed2, tup1, List.replicate]
end
end RW
namespace RW
open PySem L2 Gr
/-! ### the law k15 -/
theorem five_of {ys : List Str} (h : ys.length = 5) : ∃ a b c e o, ys = [a, b, c, e, o] := by
  match ys, h with
  | [a, b, c, e, o], _ => exact ⟨a, b, c, e, o, rfl⟩
theorem for_V {R : Type} {Tt : Tg} {mb : MS R} (P : S R → Prop) (ds : List D) (h : ∀ d ∈ ds, ∀ s, P s → match bindT Tt d s.e with
      | some e' => Ev (mb { s with e := e' }) (fun fl s' => fl = .nx ∧ P s')
      | none => False) (s : S R) (hs : P s) : Ev (forL Tt mb ds s) (fun fl s' => fl = .nx ∧ P s') := by
  refine for_ev (fun l s => (∀ d ∈ l, d ∈ ds) ∧ P s) (fun fl s' => fl = .nx ∧ P s') (fun d l s hI => ?_) (fun s hI => ⟨rfl, hI.2⟩) ds s ⟨fun d hd => hd, hs⟩
  have q := h d (hI.1 d List.mem_cons_self) s hI.2
  split at q
  · rename_i e' eb
    try rw [eb]
    refine q.mono fun fl s' hq => ?_
    obtain ⟨rfl, hq⟩ := hq
    exact ⟨fun d hd => hI.1 d (List.mem_cons_of_mem _ hd), hq⟩
  · exact q.elim
theorem law_k15 : ∀ (ns : List Int) (b : Bool) (r : Dr), ns.length ≤ 63 → ∃ s', m_law_k15 (f_take b) ⟨lawE 6 ns (some ⟨.res, false⟩), r⟩ = some (.rt (.sh (.bl true)), s') := by
  intro ns b r0 hns
  have hT := take_ok b
  generalize f_take b = T at hT
  suffices h : Ev (m_law_k15 T ⟨lawE 6 ns (some ⟨.res, false⟩), r0⟩) (fun fl s => fl = .rt (.sh (.bl true))) by
    obtain ⟨fl, s, e, rfl⟩ := h
    exact ⟨s, e⟩
  unfold m_law_k15 lawE
  generalize hF : mFor _ _ _ = F1
  simp [fnM, fnR, ent, mSeq, mSet, mV, mC, mOp1, mOp2, mChain, mAnd, mOr, mNot, mIf, mArgs, escAll, esc, soft, pk, hard, put, puts, mHards, mPar, mTup, mLst, mDct0, mCall, mRest, mRt, mRtN, mNx, mEx, mIte, mMut, mPut, mIt, bindT, bindTs, isAtom, isLst, isDK, plainAt, wipeE, backE, mFor, mLc, mDc, mWhile, mBk, mCt, mNo, mSl, mNoP, mPt, mJoin, mRng1, mRng2, mZip, mCallK, pickL, mMeth, mProp, mMake, mFld, fnI, fnIR, mDisp, mPairs, o2I, gtI, geI, leI, mStar, mStarT, mStarL, mAugI, mIndex, List.replicate]
  subst hF
  let P : S Dr → Prop := fun s => ∃ (a2 a3 a4 a5 a6 a7 : Option Cell) (r' : Dr), s = ⟨[some ⟨.scr ns, false⟩, some ⟨.res, false⟩, a2, a3, a4, a5, a6, a7], r'⟩
  let m : Nat := 5 + min 20 ns.length
  have hm : m ≤ 25 := by show 5 + min 20 ns.length ≤ 25; omega
  have hrg : mRng1 (mOp2 addD (mC (.int 5)) (mOp2 min2 (mOp1 lenD (mV 0)) (mC (.int 20)))) (⟨[some ⟨.scr ns, false⟩, some ⟨.res, false⟩, none, none, none, none, none, none], r0⟩ : S Dr) = some (rangeOf m 0, ⟨[some ⟨.scr ns, false⟩, some ⟨.res, false⟩, none, none, none, none, none, none], r0⟩) := by
    have hl : lenD (.scr ns) = some (.sh (.int ns.length)) := rfl
    have h1 : min2 (.int ns.length) (.int 20) = some (.sh (.int (min 20 ns.length : Nat))) := by
      show some (Vr.sh (D.int (if (20 : Int) < ns.length then (20 : Int) else ns.length))) = _
      congr 3
      split <;> omega
    have h2 : addD (.int 5) (.int (min 20 ns.length : Nat)) = some (.sh (.int (m : Nat))) := by
      show some (Vr.sh (D.int (5 + ((min 20 ns.length : Nat) : Int)))) = _
      congr 3
    refine rng1 (i := (m : Int)) ?_ rfl (by omega)
    generalize hm : m = m' at *
    generalize hk : min 20 ns.length = k' at *
    simp only [mOp2, mC, mOp1, mV, List.getElem?_cons_zero, Option.bind_some, soft, pk, if_false, Bool.false_eq_true, hl, Option.map_some, h1, h2]
  refine (mFor_ev hrg (for_V P (rangeOf m 0) (fun d hd s hs => ?_) _ ⟨none, none, none, none, none, none, r0, rfl⟩)).mono ?_
  · obtain ⟨a2, a3, a4, a5, a6, a7, r', rfl⟩ := hs
    obtain ⟨ys, r1, hyl, hnd, hnm, e1⟩ := words_ok hT 5 (by omega) r'
    obtain ⟨x, y, z, e, o, rfl⟩ := five_of hyl
    have e1 : f__law_words T [.res, .int 5] r' = some (.tmp (.lst (dS [x, y, z, e, o])), r1) := e1
    simp only [List.nodup_cons, List.mem_cons, not_or, List.not_mem_nil, not_false_eq_true, and_true, List.nodup_nil] at hnd
    obtain ⟨⟨h1, h2, h3, h4⟩, ⟨h5, h6, h7⟩, ⟨h8, h9⟩, h10⟩ := hnd
    have nx' := hnm x (by simp)
    have ny := hnm y (by simp)
    have nz := hnm z (by simp)
    have ne := hnm e (by simp)
    have no := hnm o (by simp)
    have q1 := pair_right_ok (T := T) h1 h3 h6 nx' ny ne r1
    have q2 := three_right_ok (T := T) h1 h2 h5 h3 h6 h8 nx' ny nz ne r1
    have q3 := goals_right_ok (T := T) h1 h3 h6 h4 h7 h10 nx' ny ne no r1
    have hP : P ⟨[some ⟨.scr ns, false⟩, some ⟨.res, false⟩, some ⟨d, false⟩, some ⟨.str x, false⟩, some ⟨.str y, false⟩, some ⟨.str z, false⟩, some ⟨.str e, false⟩, some ⟨.str o, false⟩], r1⟩ := ⟨_, _, _, _, _, _, r1, rfl⟩
    clear_value P
    generalize hU : mUnp _ _ = U
    have eU : U ⟨[some ⟨.scr ns, false⟩, some ⟨.res, false⟩, some ⟨d, false⟩, a3, a4, a5, a6, a7], r'⟩ = some (.nx, ⟨[some ⟨.scr ns, false⟩, some ⟨.res, false⟩, some ⟨d, false⟩, some ⟨.str x, false⟩, some ⟨.str y, false⟩, some ⟨.str z, false⟩, some ⟨.str e, false⟩, some ⟨.str o, false⟩], r1⟩) := by
      rw [← hU]
      refine mUnp_ok (v := .tmp (.lst (dS [x, y, z, e, o]))) (s1 := ⟨[some ⟨.scr ns, false⟩, some ⟨.res, false⟩, some ⟨d, false⟩, a3, a4, a5, a6, a7], r1⟩) ?_ rfl rfl
      simp [fnM, fnR, ent, mSeq, mSet, mV, mC, mOp1, mOp2, mChain, mAnd, mOr, mNot, mIf, mArgs, escAll, esc, soft, pk, hard, put, puts, mHards, mPar, mTup, mLst, mDct0, mCall, mRest, mRt, mRtN, mNx, mEx, mIte, mMut, mPut, mIt, bindT, bindTs, isAtom, isLst, isDK, plainAt, wipeE, backE, mFor, mLc, mDc, mWhile, mBk, mCt, mNo, mSl, mNoP, mPt, mJoin, mRng1, mRng2, mZip, mCallK, pickL, mMeth, mProp, mMake, mFld, fnI, fnIR, mDisp, mPairs, o2I, gtI, geI, leI, mStar, mStarT, mStarL, mAugI, mIndex, e1]
    simp [fnM, fnR, ent, mSeq, mSet, mV, mC, mOp1, mOp2, mChain, mAnd, mOr, mNot, mIf, mArgs, escAll, esc, soft, pk, hard, put, puts, mHards, mPar, mTup, mLst, mDct0, mCall, mRest, mRt, mRtN, mNx, mEx, mIte, mMut, mPut, mIt, bindT, bindTs, isAtom, isLst, isDK, plainAt, wipeE, backE, mFor, mLc, mDc, mWhile, mBk, mCt, mNo, mSl, mNoP, mPt, mJoin, mRng1, mRng2, mZip, mCallK, pickL, mMeth, mProp, mMake, mFld, fnI, fnIR, mDisp, mPairs, o2I, gtI, geI, leI, mStar, mStarT, mStarL, mAugI, mIndex, eU, q1, q2, q3]
    exact hP
  · rintro fl s ⟨rfl, a2, a3, a4, a5, a6, a7, r', rfl⟩
    simp
end RW
set_option maxHeartbeats 0
open PySem PySem.W PySem.Calls PyProof.Rows
theorem PySem.Challenge.cw_roundways_k15_known_mixtures_holds : PySem.Challenge.rw_roundways_k15_known_mixtures.Holds := by
  w_on; o_law
  refine HandSHeadRun.head_any (r := OpenLaw.row PySem.Challenge.rw_roundways_k15_known_mixtures) (q := view (OpenLaw.row PySem.Challenge.rw_roundways_k15_known_mixtures).prog [62]) (H := RW.hk) (ob := RW.ob) (M := 8000) (loose := RW.nms) (d := HandSHeadRun.topDef (OpenLaw.row PySem.Challenge.rw_roundways_k15_known_mixtures).prog 62) (kwd := []) RW.ob_eq
    (by kernel_rfl) (fun s => by kernel_rfl) RW.run (by kernel_rfl) (by kernel_rfl) (by kernel_rfl) (by rfl) (by first | assumption | decide +kernel) (by decide +kernel) ⟨rfl, rfl, rfl, rfl, rfl, by decide +kernel⟩ ?hw ?hc
  case hw => w_witness2
  case hc =>
    refine RW.end_ofP (l := PySem.Challenge.rw_roundways_k15_known_mixtures) (n := 63) (k := 8) (x := "script") rfl (by decide) (by kernel_rfl) ⟨rfl, by decide, by decide⟩ ?_
    intro w mg f h K S gn hmg
    have hmg : mg ("law" : PySem.Str) = some (.ref f) := by
      have e : (HandSHeadRun.topDef (OpenLaw.row PySem.Challenge.rw_roundways_k15_known_mixtures).prog 62).name = ("law" : PySem.Str) := by kernel_rfl
      rw [← e]
      exact hmg
    have e := hmg.symm.trans (RW.G_law (g := RW.g0 K (RW.clsOf K)) S.kin gn S.c)
    cases e
    obtain ⟨fd, F⟩ := S.c.def_ 51 (d := ⟨("law", none), "law", "law", L2.defArgs (RW.top 62), L2.defBody (RW.top 62), L2.defScope (RW.top 62), [], []⟩) rfl
    have b := L2.FunD.bindsA (ps := ["script"]) F fun _ _ _ _ _ _ us hl => match us, hl with | [_], _ => rfl
    exact ⟨fd, fun s v => b s [v] rfl, fun base kb gb sy => RW.ok_law kb gb S.c sy S.ex S.gt (RW.begin_ok _) RW.law_k15 F⟩
