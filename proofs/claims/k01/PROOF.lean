import PyProof.Rows.All
import Wide.All
import OpenK.AllK
import Wide.FinOn
import KE.KStateDown
import HandS.ForMost
import HandS.More
import HandS.WordsExc
import HandS.Defaults
import KE.KDictKeyed
import HandS.Property
import HandS.Style
import HandS.NoneIn
import HandS.Small
import HandS.Zip
import HandS.DictComp
import HandS.TupAny
import HandS.Deep
import PyProof.NeData
import HandS.IsInst
import HandS.Conv
import HandS.Text
import HandS.MakeKwOnly
import HandS.Strs
import HandS.TupSets
import HandS.Head0
import HandS.Head1
import HandS.Head2
import HandS.HeadEnd
import HandS.HeadHook1
import HandS.HeadHook2
import HandS.Star
import KE.SortData
import KE.DataMinMax
import HandS.DictSubView
import HandS.Set
import HandS.SetTxt0
import HandS.SetFor
import HandS.Iter
import KE.KEqDict
import KE.KDictZip
import PyProof.TupleOfSeq
import HandS.Finally
import KE.SortCalls
import HandS.TupLe
import KE.GoesMore
import KE.KDictList
import KE.KIndexWalk
import HandS.DictTup
import KE.KRevSl
import KE.KDictDisplayH
import HandS.ExcInit
import KE.KExcSuper
import HandS.RaiseMore
import HandS.ExcField
import KE.KExcIs
import KE.KExcStr
import HandS.ExcValue
import Lean
import PySem.Challenge.RW_roundways_k01_errors_by_hand
set_option Elab.async false
set_option linter.all false
set_option maxRecDepth 100000
namespace RW
open PySem L2
inductive D where
  | non | bl (b : Bool) | int (i : Int) | str (x : Str) | lst (xs : List D) | tup (xs : List D) | dct (t : Bool) (kvs : List (D × D)) | dcn (kvs : List (D × D)) | obj (c : Nat) (fs : List (Str × D)) | res | scr (ns : List Int) | err (c : Nat) (fs : List (Str × D))
instance : Inhabited D := ⟨.non⟩
structure Rsc where
  S : Type
  ad : Addr
  foot : Addr → Prop
  At : S → Hp → Prop
  stay : ∀ {s : S} {H H' : Hp}, At s H → (∀ a, foot a → H' a = H a) → At s H'
  there : ∀ {s : S} {H : Hp} {a : Addr}, At s H → foot a → ∃ o, H a = some o ∧ ∀ xs, o ≠ .tup xs
structure G where
  K : PySem.W.Frag
  cls : Nat → Addr
  R : Rsc
  w : World
def keyD : Key → D
  | .inl i => .int i
  | .inr x => .str x
def ktOk (n : Addr) : List D → Bool
  | [] => n == 1
  | _ => n == 2
def KTup (K : PySem.W.Frag) (a : Addr) (xs : List V) : Prop := ∃ (o : Obj) (its : Array Value) (n : Nat), K.lookup a = some o ∧ o.cls = .type "tuple" ∧ o.data = .seq its n ∧ its.size ≤ sizeLine ∧ Vals xs its.toList
mutual
def nk : D → Option NestedKey
  | .non => some .none
  | .bl b => some (.num (if b = true then 1 else 0))
  | .int i => some (.num i)
  | .str x => some (.text x)
  | .tup ds => (nkAll ds).map .tup
  | _ => none
def nkAll : List D → Option (List NestedKey)
  | [] => some []
  | d :: ds => (nk d).bind fun k => (nkAll ds).map fun ks => k :: ks
end
def nkT : D → Option NestedKey
  | .tup ds => (nkAll ds).bind fun ks => if (NestedKey.tup ks).depth ≤ 8 then some (.tup ks) else none
  | _ => none
def zipN (ents : List (NestedKey × Addr × V)) (us : List Value) : List (NestedKey × Addr × Value) := List.zipWith (fun e u => (e.1, e.2.1, u)) ents us
def DNo (w : World) (a : Addr) (ents : List (NestedKey × Addr × V)) (h : Heap) : Prop :=
  (a == sysModules) = false ∧ ents.length ≤ sizeLine ∧ ∃ us : List Value, Vals (ents.map (·.2.2)) us ∧ ∃ o es ep, h.get? a = some o ∧ o.ExactDict ∧ o.data = .dict es ep ∧ es.toList = (zipN ents us).map (fun x => (⟨x.1.hash w, .ref x.2.1, x.2.2⟩ : DictEntry)) ∧ (ents.map (·.1)).Nodup
def ErrP (a C : Addr) (od : Option Addr) (h : Heap) : Prop := ∃ (oe : Obj) (vs : Array Value), h.get? a = some oe ∧ oe.cls = .ref C ∧ oe.dict = od ∧ oe.data = .fields vs
def ErrT (a C t : Addr) (h : Heap) : Prop := ∃ (oe : Obj) (vs : Array Value), h.get? a = some oe ∧ oe.cls = .ref C ∧ oe.dict = none ∧ oe.data = .fields vs ∧ vs[0]? = some (.ref t)
mutual
inductive Rep (g : G) (F : Hp) : V → D → Prop
  | non : Rep g F .non .non
  | bl (b : Bool) : Rep g F (.bl b) (.bl b)
  | int (i : Int) : Rep g F (.int i) (.int i)
  | str (x : Str) : Rep g F (.str x) (.str x)
  | ref {a : Addr} {o : HO} {d : D} : F a = some o → RepO g F o d → Rep g F (.ref a) d
  | tup {a : Addr} {xs : List V} {ds : List D} : F a = some (.tup xs) → RepAll g F xs ds → Rep g F (.ref a) (.tup ds)
  | kt {a : Addr} {xs : List V} {ds : List D} : KTup g.K a xs → RepAll g F xs ds → ktOk (g.cls 1000) ds = true → Rep g F (.ref a) (.tup ds)
  | res : Rep g F (.ref g.R.ad) .res
  | kscr {a : Addr} {ns : List Int} : (∀ H, SqL g.K H a (ns.map V.int)) → Rep g F (.ref a) (.scr ns)
  | err0 {a : Addr} {c : Nat} : F a = some (.ext (ErrP a (g.cls c) none)) → Rep g F (.ref a) (.err c [])
  | errT {a t : Addr} {c : Nat} {x : Str} : F a = some (.ext (ErrT a (g.cls c) t)) → F t = some (.tup [.str x]) → Rep g F (.ref a) (.err c [("args", .str x)])
  | errD {a dx : Addr} {c : Nat} {fs : List (Str × V)} {ds : List (Str × D)} : F a = some (.ext (ErrP a (g.cls c) (some dx))) → F dx = some (.xd fs) → RepF g F fs ds → ds.lookup ("args" : Str) = none → Rep g F (.ref a) (.err c ds)
inductive RepO (g : G) (F : Hp) : HO → D → Prop
  | lst {xs : List V} {ds : List D} : RepAll g F xs ds → RepO g F (.lst xs) (.lst ds)
  | dK {kvs : List (Key × V)} {es : List (D × D)} : RepK g F kvs es → RepO g F (.dK kvs) (.dct false es)
  | dT {kvs : List (List Key × V)} {es : List (D × D)} : RepT g F kvs es → RepO g F (.dT kvs) (.dct true es)
  | dN {a : Addr} {ents : List (NestedKey × Addr × V)} {es : List (D × D)} : RepN g F ents es → RepO g F (.ext (DNo g.w a ents)) (.dcn es)
  | ins {c : Nat} {dx : Addr} {fs : List (Str × V)} {ds : List (Str × D)} : RepF g F fs ds → RepO g F (.ins (g.cls c) dx fs) (.obj c ds)
  | scr {o : Obj} {ns : List Int} : RepO g F (.frz o (.lst (ns.map V.int))) (.scr ns)
inductive RepAll (g : G) (F : Hp) : List V → List D → Prop
  | nil : RepAll g F [] []
  | cons {v : V} {vs : List V} {d : D} {ds : List D} : Rep g F v d → RepAll g F vs ds → RepAll g F (v :: vs) (d :: ds)
inductive RepK (g : G) (F : Hp) : List (Key × V) → List (D × D) → Prop
  | nil : RepK g F [] []
  | cons {k : Key} {v : V} {kvs : List (Key × V)} {d : D} {es : List (D × D)} : Rep g F v d → RepK g F kvs es → RepK g F ((k, v) :: kvs) ((keyD k, d) :: es)
inductive RepT (g : G) (F : Hp) : List (List Key × V) → List (D × D) → Prop
  | nil : RepT g F [] []
  | cons {k : List Key} {v : V} {kvs : List (List Key × V)} {d : D} {es : List (D × D)} : Rep g F v d → RepT g F kvs es → RepT g F ((k, v) :: kvs) ((.tup (k.map keyD), d) :: es)
inductive RepN (g : G) (F : Hp) : List (NestedKey × Addr × V) → List (D × D) → Prop
  | nil : RepN g F [] []
  | cons {k : NestedKey} {b : Addr} {v : V} {kvs : List (NestedKey × Addr × V)} {kd d : D} {es : List (D × D)} : Rep g F (.ref b) kd → nkT kd = some k → Rep g F v d → RepN g F kvs es → RepN g F ((k, b, v) :: kvs) ((kd, d) :: es)
inductive RepF (g : G) (F : Hp) : List (Str × V) → List (Str × D) → Prop
  | nil : RepF g F [] []
  | cons {f : Str} {v : V} {fs : List (Str × V)} {d : D} {ds : List (Str × D)} : Rep g F v d → RepF g F fs ds → RepF g F ((f, v) :: fs) ((f, d) :: ds)
end
def Le (F F' : Hp) : Prop := ∀ a o, F a = some o → F' a = some o
theorem Le.refl (F : Hp) : Le F F := fun _ _ h => h
theorem Le.trans {F F1 F2 : Hp} (a : Le F F1) (b : Le F1 F2) : Le F F2 := fun x o h => b x o (a x o h)
section
variable {g : G} {F F' : Hp} (le : Le F F')
include le
mutual
theorem Rep.mono : ∀ {v d}, Rep g F v d → Rep g F' v d
  | _, _, .non => .non
  | _, _, .bl b => .bl b
  | _, _, .int i => .int i
  | _, _, .str x => .str x
  | _, _, .ref h o => .ref (le _ _ h) (RepO.mono o)
  | _, _, .tup h o => .tup (le _ _ h) (RepAll.mono o)
  | _, _, .kt h o n => .kt h (RepAll.mono o) n
  | _, _, .res => .res
  | _, _, .kscr h => .kscr h
  | _, _, .err0 h => .err0 (le _ _ h)
  | _, _, .errT h t => .errT (le _ _ h) (le _ _ t)
  | _, _, .errD a e h n => .errD (le _ _ a) (le _ _ e) (RepF.mono h) n
theorem RepO.mono : ∀ {v d}, RepO g F v d → RepO g F' v d
  | _, _, .lst h => .lst (RepAll.mono h)
  | _, _, .dK h => .dK (RepK.mono h)
  | _, _, .dT h => .dT (RepT.mono h)
  | _, _, .dN h => .dN (RepN.mono h)
  | _, _, .ins h => .ins (RepF.mono h)
  | _, _, .scr => .scr
theorem RepAll.mono : ∀ {v d}, RepAll g F v d → RepAll g F' v d
  | _, _, .nil => .nil
  | _, _, .cons h t => .cons (Rep.mono h) (RepAll.mono t)
theorem RepK.mono : ∀ {v d}, RepK g F v d → RepK g F' v d
  | _, _, .nil => .nil
  | _, _, .cons h t => .cons (Rep.mono h) (RepK.mono t)
theorem RepT.mono : ∀ {v d}, RepT g F v d → RepT g F' v d
  | _, _, .nil => .nil
  | _, _, .cons h t => .cons (Rep.mono h) (RepT.mono t)
theorem RepN.mono : ∀ {v d}, RepN g F v d → RepN g F' v d
  | _, _, .nil => .nil
  | _, _, .cons h n k t => .cons (Rep.mono h) n (Rep.mono k) (RepN.mono t)
theorem RepF.mono : ∀ {v d}, RepF g F v d → RepF g F' v d
  | _, _, .nil => .nil
  | _, _, .cons h t => .cons (Rep.mono h) (RepF.mono t)
end
end
def NT (o : HO) : Prop := ∀ xs, o ≠ .tup xs
theorem RepO.nt {g : G} {F : Hp} {o : HO} {d : D} (h : RepO g F o d) : NT o := by
  cases h <;> exact fun _ z => nomatch z
def IsDict (o : HO) : Prop := (∃ kvs, o = .dK kvs) ∨ (∃ kvs, o = .dT kvs) ∨ ∃ w a ents, o = .ext (DNo w a ents)
def Sub (F H : Hp) : Prop := ∀ a o, F a = some o → H a = some o ∨ (IsDict o ∧ ∃ ob, H a = some (.frz ob o))
def Pk (g : G) (F H : Hp) (v : V) (d : D) : Prop := Rep g F v d ∨ ∃ p o, v = .ref p ∧ H p = some o ∧ RepO g F o d
structure Cell where
  d : D
  own : Bool
structure S (R : Type) where
  e : List (Option Cell)
  r : R
abbrev M (R α : Type) := S R → Option (α × S R)
inductive Vr where
  | sh (d : D) | tmp (d : D) | sl (i : Nat)
def Own (σ : St) (e : List (Option Cell)) (a : Addr) : Prop := ∃ (i : Nat) (c : Cell), e[i]? = some (some c) ∧ c.own = true ∧ σ[i]? = some (some (.ref a))
def CellOk (g : G) (F H : Hp) (c : Cell) (v : V) : Prop :=
  (c.own = false ∧ Rep g F v c.d) ∨ (c.own = true ∧ ∃ p o, v = .ref p ∧ F p = none ∧ ¬ g.R.foot p ∧ H p = some o ∧ RepO g F o c.d)
structure Sim (g : G) (F : Hp) (s : S g.R.S) (σ : St) (H : Hp) : Prop where
  sub : Sub F H
  at_ : g.R.At s.r H
  foot : ∀ a, g.R.foot a → F a = none
  len : s.e.length = σ.length
  cell : ∀ (i : Nat) (c : Cell), s.e[i]? = some (some c) → ∃ v, σ[i]? = some (some v) ∧ CellOk g F H c v
  apart : ∀ (i j : Nat) (ci cj : Cell) (a : Addr), i ≠ j → s.e[i]? = some (some ci) → s.e[j]? = some (some cj) → ci.own = true → cj.own = true → σ[i]? = some (some (.ref a)) → σ[j]? ≠ some (some (.ref a))
structure Keep (g : G) (F : Hp) (s : S g.R.S) (σ : St) (H : Hp) (F' : Hp) (s' : S g.R.S) (σ' : St) (H' : Hp) : Prop where
  heap : ∀ a o, H a = some o → ¬ Own σ s.e a → ¬ g.R.foot a → H' a = some o
  grow : Le F F'
  nof : ∀ a o, H a = some o → NT o → F a = none → ¬ Own σ s.e a → F' a = none
  own : ∀ a, Own σ' s'.e a → Own σ s.e a ∨ H a = none
  there : ∀ a o, H a = some o → ∃ o', H' a = some o'
theorem Keep.refl {g : G} {F : Hp} {s : S g.R.S} {σ : St} {H : Hp} : Keep g F s σ H F s σ H := ⟨fun _ _ h _ _ => h, Le.refl _, fun _ _ _ _ h _ => h, fun _ h => .inl h, fun _ o h => ⟨o, h⟩⟩
theorem Sim.own_at {g : G} {F : Hp} {s : S g.R.S} {σ : St} {H : Hp} (I : Sim g F s σ H) {a : Addr} (h : Own σ s.e a) : F a = none ∧ ¬ g.R.foot a ∧ ∃ o, H a = some o ∧ NT o := by
  obtain ⟨i, c, e1, e2, e3⟩ := h
  obtain ⟨v, e4, q⟩ := I.cell i c e1
  rw [e3] at e4
  cases e4
  rcases q with ⟨z, _⟩ | ⟨_, p, o, e, h1, h2, h3, h4⟩
  · rw [e2] at z; cases z
  · cases e
    exact ⟨h1, h2, o, h3, h4.nt⟩
theorem Keep.trans {g : G} {F F1 F2 : Hp} {s s1 s2 : S g.R.S} {σ σ1 σ2 : St} {H H1 H2 : Hp} (a : Keep g F s σ H F1 s1 σ1 H1) (b : Keep g F1 s1 σ1 H1 F2 s2 σ2 H2) (I2 : Sim g F2 s2 σ2 H2) : Keep g F s σ H F2 s2 σ2 H2 := by
  have no : ∀ x o, H x = some o → ¬ Own σ s.e x → ¬ Own σ1 s1.e x := fun x o h n z => by
    rcases a.own x z with z | z
    · exact n z
    · rw [h] at z; cases z
  refine ⟨fun x o h n nf => b.heap x o (a.heap x o h n nf) (no x o h n) nf, a.grow.trans b.grow, fun x o h nt hF n => ?_, fun x z => ?_, fun x o h => let ⟨o1, h1⟩ := a.there x o h; b.there x o1 h1⟩
  · by_cases nf : g.R.foot x
    · exact I2.foot x nf
    · exact b.nof x o (a.heap x o h n nf) nt (a.nof x o h nt hF n) (no x o h n)
  · have nf := (I2.own_at z).2.1
    rcases b.own x z with z | z
    · exact a.own x z
    · by_cases ho : Own σ s.e x
      · exact .inl ho
      · right
        cases q : H x with
        | none => rfl
        | some o => rw [a.heap x o q ho nf] at z; cases z
end RW
namespace RW
open PySem L2
structure Ext (F H F' H' : Hp) : Prop where
  le : Le F F'
  heap : ∀ a o, H a = some o → H' a = some o
  nof : ∀ a o, H a = some o → NT o → F a = none → F' a = none
  sub : Sub F' H'
theorem Ext.refl {F H : Hp} (h : Sub F H) : Ext F H F H := ⟨Le.refl _, fun _ _ h => h, fun _ _ _ _ h => h, h⟩
theorem upd_le {F : Hp} {p : Addr} {o : HO} (h : F p = none) : Le F (upd F p o) := fun a u e => by rw [upd_ne (ne_of_none e h)]; exact e
theorem Sub.free {F H : Hp} (h : Sub F H) {p : Addr} (e : H p = none) : F p = none := by
  cases q : F p with
  | none => rfl
  | some o => rcases h p o q with z | ⟨_, ob, z⟩ <;> (rw [e] at z; cases z)
theorem Ext.new {F H : Hp} (h : Sub F H) {p : Addr} {o : HO} (e : H p = none) : Ext F H (upd F p o) (upd H p o) := by
  refine ⟨upd_le (h.free e), upd_le e, fun a u q _ r => ?_, fun a u q => ?_⟩
  · rw [upd_ne (ne_of_none q e)]; exact r
  · by_cases z : a = p
    · subst z; rw [upd_same] at q; cases q; exact .inl upd_same
    · rw [upd_ne z] at q
      rw [upd_ne z]; exact h a u q
theorem Ext.tmp {F H : Hp} (h : Sub F H) {p : Addr} {o : HO} (e : H p = none) : Ext F H F (upd H p o) := by
  refine ⟨Le.refl _, upd_le e, fun _ _ _ _ r => r, fun a u q => ?_⟩
  have z : a ≠ p := fun z => by rw [z, h.free e] at q; cases q
  rw [upd_ne z]; exact h a u q
theorem Ext.trans {F H F1 H1 F2 H2 : Hp} (a : Ext F H F1 H1) (b : Ext F1 H1 F2 H2) : Ext F H F2 H2 :=
  ⟨a.le.trans b.le, fun x o h => b.heap x o (a.heap x o h), fun x o h nt r => b.nof x o (a.heap x o h) nt (a.nof x o h nt r), b.sub⟩
section
variable {g : G} {F F' : Hp} {s s' : S g.R.S} {σ : St} {H H' : Hp}
theorem CellOk.ext {c : Cell} {v : V} (h : CellOk g F H c v) (x : Ext F H F' H') : CellOk g F' H' c v := by
  rcases h with ⟨a, b⟩ | ⟨a, p, o, b1, b2, b3, b4, b5⟩
  · exact .inl ⟨a, b.mono x.le⟩
  · exact .inr ⟨a, p, o, b1, x.nof _ _ b4 b5.nt b2, b3, x.heap _ _ b4, b5.mono x.le⟩
theorem Sim.nofoot (I : Sim g F s σ H) {a : Addr} (h : H a = none) : ¬ g.R.foot a := fun z => by
  obtain ⟨o, e, _⟩ := g.R.there I.at_ z
  rw [h] at e; cases e
theorem Sim.ext (I : Sim g F s σ H) (x : Ext F H F' H') : Sim g F' s σ H' := by
  refine ⟨x.sub, g.R.stay I.at_ fun a ha => ?_, fun a ha => ?_, I.len, fun i c e => ?_, I.apart⟩
  · obtain ⟨o, e, _⟩ := g.R.there I.at_ ha
    rw [e]; exact x.heap a o e
  · obtain ⟨o, e, nt⟩ := g.R.there I.at_ ha
    exact x.nof a o e nt (I.foot a ha)
  · obtain ⟨v, e1, q⟩ := I.cell i c e
    exact ⟨v, e1, q.ext x⟩
theorem Keep.ext (x : Ext F H F' H') : Keep g F s σ H F' s σ H' := ⟨fun a o h _ _ => x.heap a o h, x.le, fun a o h nt r _ => x.nof a o h nt r, fun _ h => .inl h, fun a o h => ⟨o, x.heap a o h⟩⟩
def VOk (g : G) (F : Hp) (s : S g.R.S) (σ : St) (H0 H : Hp) : Vr → V → Prop
  | .sh d, v => Rep g F v d
  | .tmp d, v => ∃ p o, v = .ref p ∧ H0 p = none ∧ F p = none ∧ ¬ g.R.foot p ∧ ¬ Own σ s.e p ∧ H p = some o ∧ RepO g F o d
  | .sl i, v => σ[i]? = some (some v)
def tM (g : G) (m : M g.R.S Vr) : TE := fun σ H Q => ∃ F s res s', Sim g F s σ H ∧ m s = some (res, s') ∧
  ∀ F' v H', Sim g F' s' σ H' → Keep g F s σ H F' s' σ H' → VOk g F' s' σ H H' res v → Q v H'
def DE (g : G) (X : Cx) (e : Expr) (m : M g.R.S Vr) : Prop := PE X e (tM g m)
theorem PE.imp {X : Cx} {e : Expr} {t t' : TE} (h : PE X e t) (w : ∀ σ H Q, t' σ H Q → t σ H Q) : PE X e t' := ⟨fun pins s σ H Q I q => h.run pins s σ H Q I (w _ _ _ q)⟩
def soft : Vr → Vr
  | .tmp d => .sh d
  | r => r
def WOk (g : G) (F : Hp) (σ : St) : Vr → V → Prop
  | .sh d, v => Rep g F v d
  | .tmp _, _ => False
  | .sl i, v => σ[i]? = some (some v)
theorem VOk.soft {H0 : Hp} {r : Vr} {v : V} {F0 : Hp} {s0 : S g.R.S} (I : Sim g F s σ H) (k : Keep g F0 s0 σ H0 F s σ H) (h : VOk g F s σ H0 H r v) : ∃ F', Sim g F' s σ H ∧ Keep g F0 s0 σ H0 F' s σ H ∧ WOk g F' σ (soft r) v := by
  cases r with
  | sh d => exact ⟨F, I, k, h⟩
  | sl i => exact ⟨F, I, k, h⟩
  | tmp d =>
    obtain ⟨p, o, rfl, h0, h1, h2, h3, h4, h5⟩ := h
    have le : Le F (upd F p o) := upd_le h1
    refine ⟨upd F p o, ⟨fun a u q => ?_, I.at_, fun a ha => ?_, I.len, fun i c e => ?_, I.apart⟩, ⟨k.heap, k.grow.trans le, fun a u q nt r n => ?_, k.own, k.there⟩, .ref upd_same (h5.mono le)⟩
    · by_cases z : a = p
      · subst z; rw [upd_same] at q; cases q; exact .inl h4
      · rw [upd_ne z] at q; exact I.sub a u q
    · rw [upd_ne (fun (z : a = p) => h2 (by rw [← z]; exact ha))]; exact I.foot a ha
    · obtain ⟨v, e1, q⟩ := I.cell i c e
      refine ⟨v, e1, ?_⟩
      rcases q with ⟨a, b⟩ | ⟨a, p', o', b1, b2, b3, b4, b5⟩
      · exact .inl ⟨a, b.mono le⟩
      · refine .inr ⟨a, p', o', b1, ?_, b3, b4, b5.mono le⟩
        rw [upd_ne (fun z => h3 ⟨i, c, e, a, by rw [e1, b1, z]⟩)]; exact b2
    · rw [upd_ne (fun z => by rw [z, h0] at q; cases q)]; exact k.nof a u q nt r n
theorem WOk.keep {F1 : Hp} {r : Vr} {v : V} (h : WOk g F σ r v) (le : Le F F1) : WOk g F1 σ r v := by
  cases r with
  | sh d => exact Rep.mono le h
  | sl i => exact h
  | tmp d => exact h
def pk {R : Type} : Vr → S R → Option D
  | .sh d, _ => some d
  | .tmp d, _ => some d
  | .sl i, s => match s.e[i]? with
    | some (some c) => some c.d
    | _ => none
theorem WOk.pk {r : Vr} {v : V} {d : D} (I : Sim g F s σ H) (h : WOk g F σ r v) (e : pk r s = some d) : Pk g F H v d := by
  cases r with
  | sh d' => cases e; exact .inl h
  | tmp d' => exact h.elim
  | sl i =>
    have h : σ[i]? = some (some v) := h
    have e : (match s.e[i]? with | some (some c) => some c.d | _ => none) = some d := e
    cases ec : s.e[i]? with
    | none => rw [ec] at e; cases e
    | some oc =>
      cases oc with
      | none => rw [ec] at e; cases e
      | some c =>
        rw [ec] at e
        cases e
        obtain ⟨v', e1, q⟩ := I.cell i c ec
        rw [h] at e1; cases e1
        rcases q with ⟨_, b⟩ | ⟨_, p, o, b1, _, _, b4, b5⟩
        · exact .inl b
        · exact .inr ⟨p, o, b1, b4, b5⟩
def Fin (g : G) (F H : Hp) : Vr → VK → Prop
  | .sh d, Q => ∀ F' v H', Ext F H F' H' → Rep g F' v d → Q v H'
  | .tmp d, Q => ∀ F' p o H', Ext F H F' H' → H p = none → F' p = none → H' p = some o → RepO g F' o d → Q (.ref p) H'
  | .sl _, _ => False
theorem fin_of {z : Vr} {Q : VK} {F0 : Hp} {s0 : S g.R.S} {H0 : Hp} (I : Sim g F s σ H) (k : Keep g F0 s0 σ H0 F s σ H) (hz : ∀ i, z ≠ .sl i)
    (h : ∀ F' v H', Sim g F' s σ H' → Keep g F0 s0 σ H0 F' s σ H' → VOk g F' s σ H0 H' z v → Q v H') : Fin g F H z Q := by
  cases z with
  | sl i => exact (hz i rfl).elim
  | sh d => exact fun F' v H' x r => h F' v H' (I.ext x) (k.trans (Keep.ext x) (I.ext x)) r
  | tmp d =>
    intro F' p o H' x hp hF hH r
    have I' := I.ext x
    have nown : ¬ Own σ s.e p := fun z => by
      obtain ⟨o, e, _⟩ := (I.own_at z).2.2
      rw [hp] at e; cases e
    refine h F' (.ref p) H' I' (k.trans (Keep.ext x) I') ⟨p, o, rfl, ?_, hF, I.nofoot hp, nown, hH, r⟩
    cases q : H0 p with
    | none => rfl
    | some u =>
      obtain ⟨o', e⟩ := k.there p u q
      rw [hp] at e; cases e
end
end RW
namespace RW
open PySem L2
section
variable {g : G} {X : Cx}
def tMB (g : G) (m : M g.R.S Vr) : TT := fun σ H Q => ∃ F s b s', Sim g F s σ H ∧ m s = some (.sh (.bl b), s') ∧ ∀ F' H', Sim g F' s' σ H' → Keep g F s σ H F' s' σ H' → Q b H'
def DT (g : G) (X : Cx) (e : Expr) (m : M g.R.S Vr) : Prop := PT X e (tMB g m)
def DW (g : G) (X : Cx) (e : Expr) (m : M g.R.S Vr) : Prop := PW X e (tMB g m)
theorem PT.imp {X : Cx} {e : Expr} {t t' : TT} (h : PT X e t) (w : ∀ σ H Q, t' σ H Q → t σ H Q) : PT X e t' := ⟨fun pins s σ H Q I q => h.run pins s σ H Q I (w _ _ _ q)⟩
theorem PW.imp {X : Cx} {e : Expr} {t t' : TT} (h : PW X e t) (w : ∀ σ H Q, t' σ H Q → t σ H Q) : PW X e t' := ⟨fun wh pins s σ H Q I q => h.run wh pins s σ H Q I (w _ _ _ q)⟩
theorem DW.t {e : Expr} {m : M g.R.S Vr} (h : DW g X e m) : DT g X e m := L2.PW.pt h
theorem tTest_of {m : M g.R.S Vr} {t : TE} (w : ∀ σ H Q, tM g m σ H Q → t σ H Q) {σ : St} {H : Hp} {Q : Bool → Hp → Prop} (h : tMB g m σ H Q) : t σ H fun x H' => ∃ k, x = .bl k ∧ Q k H' := by
  obtain ⟨F, s, b, s', I, e, k⟩ := h
  refine w _ _ _ ⟨F, s, _, s', I, e, fun F' v H' I' K' r => ?_⟩
  have r : Rep g F' v (.bl b) := r
  cases r with
  | bl => exact ⟨b, rfl, k F' H' I' K'⟩
  | ref _ z => cases z
def mV {R : Type} (i : Nat) : M R Vr := fun s => match s.e[i]? with
  | some (some c) => some (if c.own then .sl i else .sh c.d, s)
  | _ => none
def mC {R : Type} (d : D) : M R Vr := fun s => some (.sh d, s)
theorem d_var {e : Expr} {i : Nat} (h : PE X e (tVar i)) : DE g X e (mV i) := by
  refine PE.imp h fun σ H Q ⟨F, s, res, s', I, e, k⟩ => ?_
  unfold mV at e
  split at e
  · rename_i c ec
    cases e
    obtain ⟨v, e1, q⟩ := I.cell i c ec
    refine ⟨v, e1, k F v H I Keep.refl ?_⟩
    cases ho : c.own with
    | true => exact e1
    | false =>
      rcases q with ⟨_, q⟩ | ⟨z, _⟩
      · exact q
      · rw [ho] at z; cases z
  · cases e
theorem d_c {e : Expr} {v : V} {d : D} (h : PE X e (tC v)) (r : ∀ F, Rep g F v d) : DE g X e (mC d) := by
  refine PE.imp h fun σ H Q ⟨F, s, res, s', I, e, k⟩ => ?_
  cases e
  exact k F v H I Keep.refl (r F)
theorem d_int {i j pos} : DE g X (.Constant (.int i) j pos) (mC (.int i)) := d_c pe_int fun _ => .int _
theorem d_bl {b j pos} : DE g X (.Constant (.bool b) j pos) (mC (.bl b)) := d_c pe_bl fun _ => .bl _
theorem d_non {j pos} : DE g X (.Constant .none j pos) (mC .non) := d_c pe_non fun _ => .non
theorem d_str {x j pos} : DE g X (.Constant (.str x) j pos) (mC (.str x)) := d_c pe_str fun _ => .str _
structure Op1 (g : G) (f : D → Option Vr) (r : V → Hp → VK → Prop) : Prop where
  no : ∀ x z, f x = some z → ∀ i, z ≠ .sl i
  ok : ∀ F H x dx z Q, Sub F H → Pk g F H x dx → f dx = some z → Fin g F H z Q → r x H Q
structure Op2 (g : G) (f : D → D → Option Vr) (r : R2) : Prop where
  no : ∀ x y z, f x y = some z → ∀ i, z ≠ .sl i
  ok : ∀ F H x y dx dy z Q, Sub F H → Pk g F H x dx → Pk g F H y dy → f dx dy = some z → Fin g F H z Q → r x y H Q
def mOp1 {R : Type} (f : D → Option Vr) (ma : M R Vr) : M R Vr := fun s => (ma s).bind fun p => (pk (soft p.1) p.2).bind fun x => (f x).map fun z => (z, p.2)
def mOp2 {R : Type} (f : D → D → Option Vr) (ma mb : M R Vr) : M R Vr := fun s =>
  (ma s).bind fun p => (mb p.2).bind fun q => (pk (soft p.1) q.2).bind fun x => (pk (soft q.1) q.2).bind fun y => (f x y).map fun z => (z, q.2)
theorem tM_soft {m : M g.R.S Vr} {σ : St} {H : Hp} {Q : VK} {F : Hp} {s s' : S g.R.S} {res : Vr} (I : Sim g F s σ H) (e : m s = some (res, s'))
    (h : ∀ F' v H', Sim g F' s' σ H' → Keep g F s σ H F' s' σ H' → WOk g F' σ (soft res) v → Q v H') : tM g m σ H Q := by
  refine ⟨F, s, res, s', I, e, fun F' v H' I' K' r => ?_⟩
  obtain ⟨F2, I2, K2, w⟩ := r.soft I' K'
  exact h F2 v H' I2 K2 w
theorem tOp1_of {f : D → Option Vr} {r : V → Hp → VK → Prop} (ok : Op1 g f r) {ma : M g.R.S Vr} {σ : St} {H : Hp} {Q : VK} (h : tM g (mOp1 f ma) σ H Q) : tM g ma σ H fun x H1 => r x H1 Q := by
  obtain ⟨F, s, res, s', I, e, k⟩ := h
  unfold mOp1 at e
  obtain ⟨p, e1, e⟩ := Option.bind_eq_some_iff.mp e
  obtain ⟨x, e2, e⟩ := Option.bind_eq_some_iff.mp e
  obtain ⟨z, e3, e⟩ := Option.map_eq_some_iff.mp e
  cases e
  refine tM_soft I e1 fun F1 v H1 I1 K1 w => ?_
  exact ok.ok F1 H1 v x res Q I1.sub (w.pk I1 e2) e3 (fin_of I1 K1 (ok.no _ _ e3) k)
theorem tOp2_of {f : D → D → Option Vr} {r : R2} (ok : Op2 g f r) {ma mb : M g.R.S Vr} {σ : St} {H : Hp} {Q : VK} (h : tM g (mOp2 f ma mb) σ H Q) : tOp r (tM g ma) (tM g mb) σ H Q := by
  obtain ⟨F, s, res, s', I, e, k⟩ := h
  unfold mOp2 at e
  obtain ⟨p, e1, e⟩ := Option.bind_eq_some_iff.mp e
  obtain ⟨q, e2, e⟩ := Option.bind_eq_some_iff.mp e
  obtain ⟨x, e3, e⟩ := Option.bind_eq_some_iff.mp e
  obtain ⟨y, e4, e⟩ := Option.bind_eq_some_iff.mp e
  obtain ⟨z, e5, e⟩ := Option.map_eq_some_iff.mp e
  cases e
  refine tM_soft I e1 fun F1 v H1 I1 K1 w1 => tM_soft I1 e2 fun F2 u H2 I2 K2 w2 => ?_
  exact ok.ok F2 H2 v u x y res Q I2.sub ((w1.keep K2.grow).pk I2 e3) (w2.pk I2 e4) e5 (fin_of I2 (K1.trans K2 I2) (ok.no _ _ _ e5) k)
theorem d_bin {op : Operator} {r : R2} {f : D → D → Option Vr} {a b : Expr} {ma mb : M g.R.S Vr} {pos : Pos} (ho : OpR X (binaryOp op) r) (ok : Op2 g f r) (ha : DE g X a ma) (hb : DE g X b mb) : DE g X (.BinOp a op b pos) (mOp2 f ma mb) :=
  PE.imp (pe_op ho ha hb) fun _ _ _ h => tOp2_of ok h
theorem d_cmp {op : CmpOp} {r : R2} {f : D → D → Option Vr} {a b : Expr} {ma mb : M g.R.S Vr} {pos : Pos} (ho : OpR X (compareOp op) r) (ok : Op2 g f r) (ha : DE g X a ma) (hb : DE g X b mb) (hm : behindInMarks op b = false) : DE g X (.Compare a [op] [b] pos) (mOp2 f ma mb) :=
  PE.imp (pe_cmpR ho ha hb hm) fun _ _ _ h => tOp2_of ok h
theorem t_cmp {op : CmpOp} {r : R2} {f : D → D → Option Vr} {a b : Expr} {ma mb : M g.R.S Vr} {pos : Pos} (ho : OpR X (compareOp op) r) (ok : Op2 g f r) (ha : DE g X a ma) (hb : DE g X b mb) (hm : behindInMarks op b = false) : DT g X (.Compare a [op] [b] pos) (mOp2 f ma mb) :=
  PT.imp (pt_cmpR ho ha hb hm) fun _ _ _ h => tTest_of (fun _ _ _ h => tOp2_of ok h) h
theorem t_val {e : Expr} {m : M g.R.S Vr} (h : DE g X e m) (he : ∀ whole, isTrue e X.env whole = (do let v ← whole; standAt e.pos; holding [v] (truthy v)) := by intro _; rfl) : DT g X e m :=
  PT.imp (pt_val h he) fun _ _ _ q => tTest_of (fun _ _ _ h => h) q
def mChain {R : Type} (f f' : D → D → Option Vr) (ma mb mc : M R Vr) : M R Vr := fun s =>
  (ma s).bind fun p => (mb p.2).bind fun q => (pk (soft p.1) q.2).bind fun x => (pk (soft q.1) q.2).bind fun y => match f x y with
    | some (.sh (.bl true)) => (mc q.2).bind fun u => (pk (soft q.1) u.2).bind fun y' => (pk (soft u.1) u.2).bind fun z => (f' y' z).map fun w => (w, u.2)
    | some (.sh (.bl false)) => some (.sh (.bl false), q.2)
    | _ => none
def mAnd {R : Type} (ma mb : M R Vr) : M R Vr := fun s => (ma s).bind fun p => match p.1 with
  | .sh (.bl true) => mb p.2
  | .sh (.bl false) => some (.sh (.bl false), p.2)
  | _ => none
def mOr {R : Type} (ma mb : M R Vr) : M R Vr := fun s => (ma s).bind fun p => match p.1 with
  | .sh (.bl true) => some (.sh (.bl true), p.2)
  | .sh (.bl false) => mb p.2
  | _ => none
def mNot {R : Type} (ma : M R Vr) : M R Vr := fun s => (ma s).bind fun p => match p.1 with
  | .sh (.bl b) => some (.sh (.bl (!b)), p.2)
  | _ => none
def mIf {R : Type} (mc ma mb : M R Vr) : M R Vr := fun s => (mc s).bind fun p => match p.1 with
  | .sh (.bl true) => ma p.2
  | .sh (.bl false) => mb p.2
  | _ => none
theorem first_bl {α : Type} {F : Vr → S g.R.S → Option α} {ma : M g.R.S Vr} {s : S g.R.S} {x : α} (e : ((ma s).bind fun p => F p.1 p.2) = some x) (h : ∀ v s', F v s' = some x → ∃ b, v = .sh (.bl b)) : ∃ b s', ma s = some (.sh (.bl b), s') ∧ F (.sh (.bl b)) s' = some x := by
  obtain ⟨⟨v, s'⟩, e1, e2⟩ := Option.bind_eq_some_iff.mp e
  obtain ⟨b, rfl⟩ := h v s' e2
  exact ⟨b, s', e1, e2⟩
theorem mAnd_inv {ma mb : M g.R.S Vr} {s : S g.R.S} {x : Vr × S g.R.S} (e : mAnd ma mb s = some x) : ∃ b s', ma s = some (.sh (.bl b), s') ∧ (if b = true then mb s' = some x else (Vr.sh (.bl false), s') = x) := by
  obtain ⟨b, s', e1, e2⟩ := first_bl (F := fun v s' => match v with
    | .sh (.bl true) => mb s'
    | .sh (.bl false) => some (.sh (.bl false), s')
    | _ => none) (ma := ma) (s := s) e (fun v s' h => by
      cases v with
      | sh d => cases d with
        | bl b => exact ⟨b, rfl⟩
        | _ => cases h
      | _ => cases h)
  refine ⟨b, s', e1, ?_⟩
  cases b with
  | true => exact e2
  | false => exact Option.some.inj e2
theorem mOr_inv {ma mb : M g.R.S Vr} {s : S g.R.S} {x : Vr × S g.R.S} (e : mOr ma mb s = some x) : ∃ b s', ma s = some (.sh (.bl b), s') ∧ (if b = true then (Vr.sh (.bl true), s') = x else mb s' = some x) := by
  obtain ⟨b, s', e1, e2⟩ := first_bl (F := fun v s' => match v with
    | .sh (.bl true) => some (.sh (.bl true), s')
    | .sh (.bl false) => mb s'
    | _ => none) (ma := ma) (s := s) e (fun v s' h => by
      cases v with
      | sh d => cases d with
        | bl b => exact ⟨b, rfl⟩
        | _ => cases h
      | _ => cases h)
  refine ⟨b, s', e1, ?_⟩
  cases b with
  | true => exact Option.some.inj e2
  | false => exact e2
theorem mNot_inv {ma : M g.R.S Vr} {s : S g.R.S} {x : Vr × S g.R.S} (e : mNot ma s = some x) : ∃ b s', ma s = some (.sh (.bl b), s') ∧ (Vr.sh (.bl (!b)), s') = x := by
  obtain ⟨b, s', e1, e2⟩ := first_bl (F := fun v s' => match v with
    | .sh (.bl b) => some (Vr.sh (.bl (!b)), s')
    | _ => none) (ma := ma) (s := s) (x := x) e (fun v s' h => by
      cases v with
      | sh d => cases d with
        | bl b => exact ⟨b, rfl⟩
        | _ => cases h
      | _ => cases h)
  exact ⟨b, s', e1, Option.some.inj e2⟩
theorem tM_bl {ma : M g.R.S Vr} {σ : St} {H : Hp} {Q : VK} {F : Hp} {s s' : S g.R.S} {b : Bool} (I : Sim g F s σ H) (e : ma s = some (.sh (.bl b), s')) (k : ∀ F' H', Sim g F' s' σ H' → Keep g F s σ H F' s' σ H' → Q (.bl b) H') : tM g ma σ H Q := by
  refine ⟨F, s, _, s', I, e, fun F' v H' I' K' r => ?_⟩
  have r : Rep g F' v (.bl b) := r
  cases r with
  | bl => exact k F' H' I' K'
  | ref _ z => cases z
theorem VOk.base {F F1 F' : Hp} {s s1 s' : S g.R.S} {σ σ1 : St} {H H1 H' : Hp} {res : Vr} {v : V} (K1 : Keep g F s σ1 H F1 s1 σ H1) (r : VOk g F' s' σ H1 H' res v) : VOk g F' s' σ H H' res v := by
  cases res with
  | tmp d =>
    obtain ⟨p, o, rfl, h0, h⟩ := r
    refine ⟨p, o, rfl, ?_, h⟩
    cases q : H p with
    | none => rfl
    | some u => obtain ⟨o', e⟩ := K1.there p u q; rw [h0] at e; cases e
  | sh d => exact r
  | sl i => exact r
theorem tM_tail {m : M g.R.S Vr} {F F1 : Hp} {s s1 s' : S g.R.S} {σ : St} {H H1 : Hp} {res : Vr} {Q : VK} (I1 : Sim g F1 s1 σ H1) (K1 : Keep g F s σ H F1 s1 σ H1) (e : m s1 = some (res, s'))
    (k : ∀ F' v H', Sim g F' s' σ H' → Keep g F s σ H F' s' σ H' → VOk g F' s' σ H H' res v → Q v H') : tM g m σ H1 Q :=
  ⟨F1, s1, res, s', I1, e, fun F' v H' I' K' r => k F' v H' I' (K1.trans K' I') (r.base K1)⟩
theorem d_one {op} {a : Expr} {ma : M g.R.S Vr} {pos : Pos} (h : DE g X a ma) : DE g X (.BoolOp op [a] pos) ma := pe_one h
theorem d_and {a b : Expr} {rest : List Expr} {ma mb : M g.R.S Vr} {pos : Pos} (ha : DE g X a ma) (hb : DE g X (.BoolOp .And (b :: rest) pos) mb) : DE g X (.BoolOp .And (a :: b :: rest) pos) (mAnd ma mb) := by
  refine PE.imp (pe_and ha hb) fun σ H Q ⟨F, s, res, s', I, e, k⟩ => ?_
  obtain ⟨c, s1, e1, e2⟩ := mAnd_inv e
  refine tM_bl I e1 fun F1 H1 I1 K1 => ⟨c, rfl, ?_⟩
  cases c with
  | true => exact tM_tail I1 K1 e2 k
  | false =>
    have e2 : (Vr.sh (.bl false), s1) = (res, s') := e2
    cases e2
    exact k F1 _ H1 I1 K1 (.bl false)
theorem w_one_and {a : Expr} {ma : M g.R.S Vr} {pos : Pos} (h : DT g X a ma) : DW g X (.BoolOp .And [a] pos) ma := pw_and1 h
theorem w_one_or {a : Expr} {ma : M g.R.S Vr} {pos : Pos} (h : DT g X a ma) : DW g X (.BoolOp .Or [a] pos) ma := pw_or1 h
theorem w_and {a b : Expr} {rest : List Expr} {ma mb : M g.R.S Vr} {pos : Pos} (ha : DT g X a ma) (hb : DW g X (.BoolOp .And (b :: rest) pos) mb) : DW g X (.BoolOp .And (a :: b :: rest) pos) (mAnd ma mb) := by
  refine PW.imp (pw_and ha hb) fun σ H Q ⟨F, s, b, s', I, e, k⟩ => ?_
  obtain ⟨c, s1, e1, e2⟩ := mAnd_inv e
  refine ⟨F, s, c, s1, I, e1, fun F1 H1 I1 K1 => ?_⟩
  cases c with
  | true => exact ⟨F1, s1, b, s', I1, e2, fun F' H' I' K' => k F' H' I' (K1.trans K' I')⟩
  | false =>
    have e2 : (Vr.sh (.bl false), s1) = (.sh (.bl b), s') := e2
    cases e2
    exact k F1 H1 I1 K1
theorem w_or {a b : Expr} {rest : List Expr} {ma mb : M g.R.S Vr} {pos : Pos} (ha : DT g X a ma) (hb : DW g X (.BoolOp .Or (b :: rest) pos) mb) : DW g X (.BoolOp .Or (a :: b :: rest) pos) (mOr ma mb) := by
  refine PW.imp (pw_or ha hb) fun σ H Q ⟨F, s, b, s', I, e, k⟩ => ?_
  obtain ⟨c, s1, e1, e2⟩ := mOr_inv e
  refine ⟨F, s, c, s1, I, e1, fun F1 H1 I1 K1 => ?_⟩
  cases c with
  | false => exact ⟨F1, s1, b, s', I1, e2, fun F' H' I' K' => k F' H' I' (K1.trans K' I')⟩
  | true =>
    have e2 : (Vr.sh (.bl true), s1) = (.sh (.bl b), s') := e2
    cases e2
    exact k F1 H1 I1 K1
theorem t_not {a : Expr} {ma : M g.R.S Vr} {pos : Pos} (ha : DT g X a ma) : DT g X (.UnaryOp .Not a pos) (mNot ma) := by
  refine PT.imp (pt_not ha) fun σ H Q ⟨F, s, b, s', I, e, k⟩ => ?_
  obtain ⟨c, s1, e1, e2⟩ := mNot_inv e
  cases e2
  exact ⟨F, s, c, _, I, e1, k⟩
end
end RW
namespace RW
open PySem L2
section
variable {g : G} {X : Cx}
def esc {R : Type} (r : Vr) : M R D := fun s => match r with
  | .sh d => some (d, s)
  | .tmp d => some (d, s)
  | .sl i => match s.e[i]? with
    | some (some c) => some (c.d, { s with e := s.e.set i (some ⟨c.d, false⟩) })
    | _ => none
theorem esc_ok {F : Hp} {s s' : S g.R.S} {σ : St} {H : Hp} {r : Vr} {v : V} {d : D} (I : Sim g F s σ H) (w : WOk g F σ r v) (e : esc r s = some (d, s')) : ∃ F', Sim g F' s' σ H ∧ Keep g F s σ H F' s' σ H ∧ Rep g F' v d := by
  cases r with
  | sh d' => cases e; exact ⟨F, I, Keep.refl, w⟩
  | tmp d' => exact w.elim
  | sl i =>
    have w : σ[i]? = some (some v) := w
    have e : (match s.e[i]? with | some (some c) => some (c.d, { s with e := s.e.set i (some ⟨c.d, false⟩) }) | _ => none) = some (d, s') := e
    split at e
    · rename_i c ec
      cases e
      obtain ⟨v', e1, q⟩ := I.cell i c ec
      rw [w] at e1; cases e1
      have hi : i < s.e.length := (List.getElem?_eq_some_iff.mp ec).1
      have at_i : (s.e.set i (some ⟨c.d, false⟩))[i]? = some (some ⟨c.d, false⟩) := List.getElem?_set_self hi
      have at_j : ∀ j, j ≠ i → (s.e.set i (some ⟨c.d, false⟩))[j]? = s.e[j]? := fun j h => List.getElem?_set_ne (Ne.symm h)
      have own' : ∀ a, Own σ (s.e.set i (some ⟨c.d, false⟩)) a → Own σ s.e a := fun a ⟨j, cj, h1, h2, h3⟩ => by
        by_cases hj : j = i
        · subst hj; rw [at_i] at h1; cases h1; cases h2
        · rw [at_j j hj] at h1; exact ⟨j, cj, h1, h2, h3⟩
      rcases q with ⟨ho, q⟩ | ⟨ho, p, o, rfl, b2, b3, b4, b5⟩
      · refine ⟨F, ⟨I.sub, I.at_, I.foot, by simpa using I.len, fun j cj ej => ?_, fun j k cj ck a hne ej ek oj ok hj => ?_⟩, ⟨fun _ _ h _ _ => h, Le.refl _, fun _ _ _ _ h _ => h, fun a h => .inl (own' a h), fun _ o h => ⟨o, h⟩⟩, q⟩
        · by_cases hj : j = i
          · subst hj; rw [at_i] at ej; cases ej; exact ⟨v, w, .inl ⟨rfl, q⟩⟩
          · rw [at_j j hj] at ej; exact I.cell j cj ej
        · have hj' : j ≠ i := fun z => by subst z; rw [at_i] at ej; cases ej; cases oj
          have hk' : k ≠ i := fun z => by subst z; rw [at_i] at ek; cases ek; cases ok
          rw [at_j j hj'] at ej; rw [at_j k hk'] at ek
          exact I.apart j k cj ck a hne ej ek oj ok hj
      · have le : Le F (upd F p o) := upd_le b2
        refine ⟨upd F p o, ⟨fun a u q => ?_, I.at_, fun a ha => ?_, by simpa using I.len, fun j cj ej => ?_, fun j k cj ck a hne ej ek oj ok hj => ?_⟩, ⟨fun _ _ h _ _ => h, le, fun a u q _ r n => ?_, fun a h => .inl (own' a h), fun _ o h => ⟨o, h⟩⟩, .ref upd_same (b5.mono le)⟩
        · by_cases z : a = p
          · subst z; rw [upd_same] at q; cases q; exact .inl b4
          · rw [upd_ne z] at q; exact I.sub a u q
        · rw [upd_ne (fun (z : a = p) => b3 (by rw [← z]; exact ha))]; exact I.foot a ha
        · by_cases hj : j = i
          · subst hj; rw [at_i] at ej; cases ej; exact ⟨_, w, .inl ⟨rfl, .ref upd_same (b5.mono le)⟩⟩
          · rw [at_j j hj] at ej
            obtain ⟨vj, f1, q⟩ := I.cell j cj ej
            refine ⟨vj, f1, ?_⟩
            rcases q with ⟨a, b⟩ | ⟨a, p', o', c1, c2, c3, c4, c5⟩
            · exact .inl ⟨a, b.mono le⟩
            · refine .inr ⟨a, p', o', c1, ?_, c3, c4, c5.mono le⟩
              rw [upd_ne (fun z => I.apart j i cj c p hj ej ec a ho (by rw [f1, c1, z]) w)]; exact c2
        · have hj' : j ≠ i := fun z => by subst z; rw [at_i] at ej; cases ej; cases oj
          have hk' : k ≠ i := fun z => by subst z; rw [at_i] at ek; cases ek; cases ok
          rw [at_j j hj'] at ej; rw [at_j k hk'] at ek
          exact I.apart j k cj ck a hne ej ek oj ok hj
        · rw [upd_ne (fun (z : a = p) => n ⟨i, c, ec, ho, by rw [w, z]⟩)]; exact r
    · cases e
def escAll {R : Type} : List Vr → M R (List D)
  | [] => fun s => some ([], s)
  | r :: rs => fun s => (esc r s).bind fun p => (escAll rs p.2).map fun q => (p.1 :: q.1, q.2)
def WAll (g : G) (F : Hp) (σ : St) : List Vr → List V → Prop
  | [], [] => True
  | r :: rs, v :: vs => WOk g F σ r v ∧ WAll g F σ rs vs
  | _, _ => False
theorem WAll.keep {F F1 : Hp} {σ : St} (le : Le F F1) : ∀ {rs : List Vr} {vs : List V}, WAll g F σ rs vs → WAll g F1 σ rs vs
  | [], [], _ => trivial
  | _ :: _, _ :: _, h => ⟨h.1.keep le, WAll.keep le h.2⟩
  | [], _ :: _, h => h.elim
  | _ :: _, [], h => h.elim
theorem WAll.length {F : Hp} {σ : St} : ∀ {rs : List Vr} {vs : List V}, WAll g F σ rs vs → rs.length = vs.length
  | [], [], _ => rfl
  | _ :: _, _ :: _, h => by simp [WAll.length h.2]
  | [], _ :: _, h => h.elim
  | _ :: _, [], h => h.elim
theorem RepAll.length {F : Hp} : ∀ {vs : List V} {ds : List D}, RepAll g F vs ds → vs.length = ds.length
  | _, _, .nil => rfl
  | _, _, .cons _ t => by simp [RepAll.length t]
theorem escAll_ok {σ : St} {H : Hp} : ∀ {rs : List Vr} {F : Hp} {s s' : S g.R.S} {vs : List V} {ds : List D}, Sim g F s σ H → WAll g F σ rs vs → escAll rs s = some (ds, s') → ∃ F', Sim g F' s' σ H ∧ Keep g F s σ H F' s' σ H ∧ RepAll g F' vs ds
  | [], F, s, s', [], ds, I, w, e => by cases e; exact ⟨F, I, Keep.refl, .nil⟩
  | [], _, _, _, _ :: _, _, _, w, _ => w.elim
  | _ :: _, _, _, _, [], _, _, w, _ => w.elim
  | r :: rs, F, s, s', v :: vs, ds, I, w, e => by
    unfold escAll at e
    obtain ⟨p, e1, e⟩ := Option.bind_eq_some_iff.mp e
    obtain ⟨q, e2, e⟩ := Option.map_eq_some_iff.mp e
    cases e
    obtain ⟨F1, I1, K1, r1⟩ := esc_ok I w.1 e1
    obtain ⟨F2, I2, K2, r2⟩ := escAll_ok I1 (w.2.keep K1.grow) e2
    exact ⟨F2, I2, K1.trans K2 I2, .cons (r1.mono K2.grow) r2⟩
def mArgs {R : Type} : List (M R Vr) → M R (List Vr)
  | [] => fun s => some ([], s)
  | m :: ms => fun s => (m s).bind fun p => (mArgs ms p.2).map fun q => (soft p.1 :: q.1, q.2)
def tMV (g : G) (n : Nat) (m : M g.R.S (List Vr)) : TA := fun σ H Q => ∃ F s rs s', Sim g F s σ H ∧ m s = some (rs, s') ∧
  ∀ F' vs H', Sim g F' s' σ H' → Keep g F s σ H F' s' σ H' → WAll g F' σ rs vs → vs.length = n → Q vs H'
def DA (g : G) (X : Cx) (n : Nat) (es : List Expr) (m : M g.R.S (List Vr)) : Prop := PA X es (tMV g n m)
theorem PA.imp {X : Cx} {e : List Expr} {t t' : TA} (h : PA X e t) (w : ∀ σ H Q, t' σ H Q → t σ H Q) : PA X e t' := ⟨fun pos pins s σ H Q I q => h.run pos pins s σ H Q I (w _ _ _ q)⟩
theorem a_nil : DA g X 0 [] (mArgs []) := PA.imp pa_nil fun σ H Q ⟨F, s, rs, s', I, e, k⟩ => by
  cases e
  exact k F [] H I Keep.refl trivial rfl
theorem a_cons {e : Expr} {es : List Expr} {n : Nat} {m : M g.R.S Vr} {ms : List (M g.R.S Vr)} (ha : DE g X e m) (hr : DA g X n es (mArgs ms)) (hs : starEach (e :: es) X.env = (false, eval e X.env) :: starEach es X.env := by rfl) : DA g X (n + 1) (e :: es) (mArgs (m :: ms)) := by
  refine PA.imp (pa_cons ha hr hs) fun σ H Q ⟨F, s, rs, s', I, e, k⟩ => ?_
  unfold mArgs at e
  obtain ⟨p, e1, e⟩ := Option.bind_eq_some_iff.mp e
  obtain ⟨q, e2, e⟩ := Option.map_eq_some_iff.mp e
  cases e
  refine tM_soft I e1 fun F1 v H1 I1 K1 w1 => ?_
  refine ⟨F1, _, q.1, q.2, I1, e2, fun F2 vs H2 I2 K2 w2 hl => ?_⟩
  exact k F2 (v :: vs) H2 I2 (K1.trans K2 I2) ⟨w1.keep K2.grow, w2⟩ (by simp [hl])
def mTup {R : Type} (ma : M R (List Vr)) : M R Vr := fun s => (ma s).bind fun p => (escAll p.1 p.2).map fun q => (.sh (.tup q.1), q.2)
def mLst {R : Type} (ma : M R (List Vr)) : M R Vr := fun s => (ma s).bind fun p => (escAll p.1 p.2).map fun q => (.tmp (.lst q.1), q.2)
theorem d_tup {es : List Expr} {n : Nat} {x1} {pos : Pos} {ma : M g.R.S (List Vr)} (h : DA g X n es ma) (hn : n ≤ sizeLine := by decide) : DE g X (.Tuple es x1 pos) (mTup ma) := by
  refine PE.imp (pe_tup h) fun σ H Q ⟨F, s, res, s', I, e, k⟩ => ?_
  unfold mTup at e
  obtain ⟨p, e1, e⟩ := Option.bind_eq_some_iff.mp e
  obtain ⟨q, e2, e⟩ := Option.map_eq_some_iff.mp e
  cases e
  refine ⟨F, s, p.1, p.2, I, e1, fun F1 vs H1 I1 K1 w1 hl => ⟨by rw [hl]; exact hn, fun a ha => ?_⟩⟩
  obtain ⟨F2, I2, K2, r2⟩ := escAll_ok I1 w1 e2
  have x : Ext F2 H1 (upd F2 a (.tup vs)) (upd H1 a (.tup vs)) := Ext.new I2.sub ha
  exact k _ _ _ (I2.ext x) ((K1.trans K2 I2).trans (Keep.ext x) (I2.ext x)) (.tup upd_same (r2.mono x.le))
theorem tmp_ok {F : Hp} {s : S g.R.S} {σ : St} {H : Hp} {F0 : Hp} {s0 : S g.R.S} {σ0 : St} {H0 : Hp} {p : Addr} {o : HO} {d : D} (I : Sim g F s σ H) (K : Keep g F0 s0 σ0 H0 F s σ H) (hp : H p = none) (r : RepO g F o d) : VOk g F s σ H0 (upd H p o) (.tmp d) (.ref p) := by
  refine ⟨p, o, rfl, ?_, I.sub.free hp, I.nofoot hp, fun z => ?_, upd_same, r⟩
  · cases q : H0 p with
    | none => rfl
    | some u => obtain ⟨o', e⟩ := K.there p u q; rw [hp] at e; cases e
  · obtain ⟨o, e, _⟩ := (I.own_at z).2.2
    rw [hp] at e; cases e
theorem d_lst {es : List Expr} {n : Nat} {pos : Pos} {ma : M g.R.S (List Vr)} (h : DA g X n es ma) (hn : n ≤ sizeLine := by decide) : DE g X (.List es pos) (mLst ma) := by
  refine PE.imp (pe_lst h) fun σ H Q ⟨F, s, res, s', I, e, k⟩ => ?_
  unfold mLst at e
  obtain ⟨p, e1, e⟩ := Option.bind_eq_some_iff.mp e
  obtain ⟨q, e2, e⟩ := Option.map_eq_some_iff.mp e
  cases e
  refine ⟨F, s, p.1, p.2, I, e1, fun F1 vs H1 I1 K1 w1 hl => ⟨by rw [hl]; exact hn, fun a ha => ?_⟩⟩
  obtain ⟨F2, I2, K2, r2⟩ := escAll_ok I1 w1 e2
  have x : Ext F2 H1 F2 (upd H1 a (.lst vs)) := Ext.tmp I2.sub ha
  exact k _ _ _ (I2.ext x) ((K1.trans K2 I2).trans (Keep.ext x) (I2.ext x)) (tmp_ok I2 (K1.trans K2 I2) ha (.lst r2))
def mDct0 {R : Type} (t : Bool) : M R Vr := fun s => some (.tmp (.dct t []), s)
end
end RW
namespace RW
open PySem L2 PyProof.Rows
structure FnG (P : Program) (w : World) (K : PySem.W.Frag) (mg : Str → Option Value)
    (base : Heap) (k : Nat) (f : Addr) (fd : FuncData) (ps : List Str) (sp : Sp) : Prop where
  len : ∀ vs H Q E, sp vs H Q E → vs.length = ps.length
  go : ∀ {A : Around} {outer : List Env} {s : Shared} {H : Hp} {args : Args} {us : List Value} {vs : List V} {Q : VK},
    Room k A → A.guards = some [] → Env0 P w K mg base A outer s H →
    BindsTo s fd args (ps.zip us) → Vals vs us → sp vs H Q E0 →
    codeAny (model P w) A (.call (.ref f) args) (CR CX0 outer P w H s Q E0) s
section
variable {P : Program} {w : World} {K : PySem.W.Frag} {mg : Str → Option Value} {base : Heap} {j k : Nat} {f : Addr} {fd : FuncData} {ps : List Str} {sp : Sp}
theorem FnG.of (F : FnOk P w K mg base CX0 k f fd ps sp) : FnG P w K mg base k f fd ps sp :=
  ⟨F.len, fun hr _ e0 hb hv hs => F.run _ _ _ _ _ _ _ _ _ hr e0 hb hv hs⟩
theorem FnG.mono (F : FnG P w K mg base j f fd ps sp) (h : j ≤ k) : FnG P w K mg base k f fd ps sp :=
  ⟨F.len, fun hr => F.go (hr.mono h)⟩
theorem deeper_guards {A : Around} {env : Env} (h : A.guards = some []) : (A.deeper env).guards = some [] := h
theorem FunD.okG {x qual : Str} {params : Arguments} {body : List Stmt} {scope : Scope} {dvs : List V} {kws : List (Str × V)} {N : List Str}
    (F : FunD K x qual params body scope dvs kws f fd) (S : FnScope N ps scope) (len : ∀ vs H Q E, sp vs H Q E → vs.length = ps.length)
    (hbody : ∀ (cdv : Value) (A : Around) (outer : List Env) (s : Shared) (H : Hp) (vs : List V) (Q : VK),
      Room k (A.deeper (envOfC qual scope s.heap.objs.size f cdv)) → A.guards = some [] → sp vs H Q E0 →
      ∃ t, PSs (cxOf CX0 P w K mg base N qual scope f cdv A outer s H E0) body t ∧ t { nx := fun _ H' => Q .non H', rt := Q } (L2.start N vs) H) :
    FnG P w K mg base (k + 1) f fd ps sp := by
  obtain ⟨oc, od, dV, kV, doc, pm, an, cdv, ct, osl, rfl, lk, hcd, _, _⟩ := F.ex
  constructor
  · exact len
  intro A outer s H args us vs Q hr hg e0 hb rv hsp
  have keep : ∀ b o, base.get? b = some o → s.heap.get? b = some o := fun b o e => (e0.bs b o e).1
  have inK := e0.mod.kin.keeps keep
  have nol := e0.mod.nolimit.keeps keep
  refine codeAny_call_function hr.depth (inK _ _ lk) rfl S.co S.gen rfl (PySem.W.codeRec_of inK hcd) (hb _ _ _ _ ?_)
  refine wpAny_newFunctionEnv_cells S.kind ?_ ?_
  · intro ⟨n, v⟩ hy
    rcases S.par n (List.of_mem_zip hy).1 with z | z
    · left; exact z
    · right; exact ⟨z, PySem.W.cellsFrom_some _ _ _ (.inl z)⟩
  intro env he s1 ic
  subst he
  refine ⟨nol.keeps ic.toInCall.keep, codeAny_func ?_⟩
  obtain ⟨t, ht, hq⟩ := hbody cdv A outer s H vs Q (hr.deeper _) hg hsp
  have J := inv_start (CX := CX0) (E := E0) (f := f) (cd := cdv) (qual := qual) S hr.hd e0 (len _ _ _ _ hsp) rv ic
  refine wpAny_mono (ht.run [] s1 (L2.start N vs) H _ J hq) ?_ (fun _ _ z => z)
  intro fl s' hs
  cases fl with
  | next =>
    obtain ⟨σ', H', J', q⟩ := hs
    exact ⟨V.non, H', J'.os, J'.bare, J'.base, J'.hok, rfl, q⟩
  | ret u =>
    obtain ⟨v, σ', H', J', r', q⟩ := hs
    exact ⟨v, H', J'.os, J'.bare, J'.base, J'.hok, r', q⟩
  | brk => exact hs.elim fun _ z => z.elim fun _ z => z.2.elim
  | cont => exact hs.elim fun _ z => z.elim fun _ z => z.2.elim
end
section
variable {X : Cx} {k : Nat} {f C : Addr} {fd : FuncData} {ps : List Str} {sp : Sp} {x m : Str} {p pos apos : Pos} {e o : Expr} {es : List Expr} {ta : TE} {t : TA}
theorem FnG.go1 {pins : List (Addr × Obj)} {σ : L2.St} {H : Hp} {s : Shared} {Q : VK} {us ws : List Value} {kw : List (Str × Value)} {vs : List V}
    (F : FnG X.prog X.w X.K X.mg X.base k f fd ps sp) (hr : Room k X.A) (hg : X.A.guards = some []) (I : Inv X pins σ H s)
    (hb : BindsTo s fd ⟨ws, kw⟩ (ps.zip us)) (r : Vals vs us) (h : sp vs H Q E0) : wpAny (model X.prog X.w) X.A (call (.ref f) ws kw) (EP X pins σ Q) X.xe s := by
  refine wpAny_call (codeAny_mono (F.go hr hg I.env0 hb r h) ?_)
  intro r s' hq
  match r, hq with
  | .ok (.ret u), hq => exact I.after hq
theorem FnG.goB {pins : List (Addr × Obj)} {σ : L2.St} {H : Hp} {s : Shared} {Q : VK} {us : List Value} {vs : List V}
    (F : FnG X.prog X.w X.K X.mg X.base k f fd ps sp) (hr : Room k X.A) (hg : X.A.guards = some []) (hb : Binds X.K fd ps []) (I : Inv X pins σ H s)
    (r : Vals vs us) (h : sp vs H Q E0) : wpAny (model X.prog X.w) X.A (call (.ref f) us) (EP X pins σ Q) X.xe s := by
  have hl : (us ++ []).length = ps.length := by rw [List.append_nil, ← r.length]; exact F.len _ _ _ _ h
  have b := hb s us I.kIn hl
  rw [List.append_nil] at b
  exact F.go1 hr hg I b r h
theorem pg_call (F : FnG X.prog X.w X.K X.mg X.base k f fd ps sp) (hr : Room k X.A) (gd : X.A.guards = some []) (hg : Gl X x) (hm : X.mg x = some (.ref f))
    (hk : PySem.W.keepIn X.K (.ref f) = true) (hb : Binds X.K fd ps []) (ha : PA X (e :: es) t) (hdb : (x == ("__debug__" : Str)) = false)
    (he : starEach (e :: es) X.env = (false, eval e X.env) :: starEach es X.env) (hpl : (backTo pos (starEach es X.env)).any (·.1) = false) :
    PE X (.Call (.Name x p) (e :: es) [] pos) (fun σ H Q => t σ H fun vs H1 => sp vs H1 Q E0) := by
  constructor
  intro pins s σ H Q I h
  refine wpAny_Call_Name_kw (ld_glob I hg hm ?_ hdb)
  refine PySem.W.callWith_K (h₀ := X.base) I.ok.mod.kin hk (thn (ha.run pos pins s σ H _ I h) ?_) he hpl
  intro us s1 ⟨vs, H1, I1, r, q⟩
  exact ⟨I1.kIn, F.goB hr gd hb I1 r q⟩
end
end RW
namespace RW
open PySem L2
section
variable {g : G} {X : Cx}
abbrev Fm (R : Type) := List D → R → Option (Vr × R)
def ROk (g : G) (F H0 H : Hp) : Vr → V → Prop
  | .sh d, v => Rep g F v d
  | .tmp d, v => ∃ p o, v = .ref p ∧ H0 p = none ∧ F p = none ∧ ¬ g.R.foot p ∧ H p = some o ∧ RepO g F o d
  | .sl _, _ => False
structure Left (g : G) (F H F' H' : Hp) (r' : g.R.S) : Prop where
  sub : Sub F' H'
  at_ : g.R.At r' H'
  foot : ∀ a, g.R.foot a → F' a = none
  le : Le F F'
  heap : ∀ a o, H a = some o → ¬ g.R.foot a → H' a = some o
  nof : ∀ a o, H a = some o → NT o → F a = none → F' a = none
  there : ∀ a o, H a = some o → ∃ o', H' a = some o'
def spM (g : G) (n : Nat) (mf : Fm g.R.S) : Sp := fun vs H Q _ => ∃ F r ds res r', Sub F H ∧ g.R.At r H ∧ (∀ a, g.R.foot a → F a = none) ∧ RepAll g F vs ds ∧ ds.length = n ∧ mf ds r = some (res, r') ∧
  ∀ F' v H', Left g F H F' H' r' → ROk g F' H H' res v → Q v H'
def isAtom : Vr → Bool
  | .sh .non => true
  | .sh (.bl _) => true
  | .sh (.int _) => true
  | .sh (.str _) => true
  | _ => false
def mCall {R : Type} (mf : Fm R) (ma : M R (List Vr)) : M R Vr := fun s => (ma s).bind fun p => (escAll p.1 p.2).bind fun z => (mf z.1 z.2.r).bind fun q =>
  match q.1 with
  | .sl _ => none
  | x => some (x, if isAtom x then { p.2 with r := q.2 } else { z.2 with r := q.2 })
theorem atom_any {F F' : Hp} {v : V} {d : D} (h : isAtom (.sh d) = true) (r : Rep g F v d) : Rep g F' v d := by
  cases r with
  | non => exact .non
  | bl => exact .bl _
  | int => exact .int _
  | str => exact .str _
  | ref _ z => cases z <;> cases h
  | tup _ _ => cases h
  | kt _ _ _ => cases h
  | res => cases h
  | kscr _ => cases h
  | err0 _ => cases h
  | errT _ _ => cases h
  | errD _ _ _ _ => cases h
theorem Sim.left {F F' : Hp} {s : S g.R.S} {σ : St} {H H' : Hp} {r' : g.R.S} (I : Sim g F s σ H) (l : Left g F H F' H' r') : Sim g F' { s with r := r' } σ H' ∧ Keep g F s σ H F' { s with r := r' } σ H' := by
  refine ⟨⟨l.sub, l.at_, l.foot, I.len, fun i c e => ?_, I.apart⟩, ⟨fun a o h _ nf => l.heap a o h nf, l.le, fun a o h nt q _ => l.nof a o h nt q, fun a h => .inl h, l.there⟩⟩
  obtain ⟨v, e1, q⟩ := I.cell i c e
  refine ⟨v, e1, ?_⟩
  rcases q with ⟨a, b⟩ | ⟨a, p, o, b1, b2, b3, b4, b5⟩
  · exact .inl ⟨a, b.mono l.le⟩
  · exact .inr ⟨a, p, o, b1, l.nof _ _ b4 b5.nt b2, b3, l.heap _ _ b4 b3, b5.mono l.le⟩
theorem Sim.left0 {F F1 F' : Hp} {s : S g.R.S} {σ : St} {H H' : Hp} {r' : g.R.S} (I : Sim g F s σ H) (l : Left g F1 H F' H' r') : Sim g F { s with r := r' } σ H' ∧ Keep g F s σ H F { s with r := r' } σ H' := by
  refine ⟨⟨fun a o e => ?_, l.at_, I.foot, I.len, fun i c e => ?_, I.apart⟩, ⟨fun a o h _ nf => l.heap a o h nf, Le.refl _, fun a o h _ q _ => q, fun a h => .inl h, l.there⟩⟩
  · have nf : ¬ g.R.foot a := fun z => by rw [I.foot a z] at e; cases e
    rcases I.sub a o e with q | ⟨q, ob, q2⟩
    · exact .inl (l.heap a o q nf)
    · exact .inr ⟨q, ob, l.heap a _ q2 nf⟩
  · obtain ⟨v, e1, q⟩ := I.cell i c e
    refine ⟨v, e1, ?_⟩
    rcases q with ⟨a, b⟩ | ⟨a, p, o, b1, b2, b3, b4, b5⟩
    · exact .inl ⟨a, b⟩
    · exact .inr ⟨a, p, o, b1, b2, b3, l.heap _ _ b4 b3, b5⟩
theorem tCall_of {n : Nat} {mf : Fm g.R.S} {ma : M g.R.S (List Vr)} {σ : St} {H : Hp} {Q : VK} {E : XK} (h : tM g (mCall mf ma) σ H Q) : tMV g n ma σ H fun vs H1 => spM g n mf vs H1 Q E := by
  obtain ⟨F, s, res, s', I, e, k⟩ := h
  unfold mCall at e
  obtain ⟨p, e1, e⟩ := Option.bind_eq_some_iff.mp e
  obtain ⟨z, e2, e⟩ := Option.bind_eq_some_iff.mp e
  obtain ⟨q, e3, e⟩ := Option.bind_eq_some_iff.mp e
  refine ⟨F, s, p.1, p.2, I, e1, fun F1 vs H1 I1 K1 w1 hl => ?_⟩
  obtain ⟨F2, I2, K2, r2⟩ := escAll_ok I1 w1 e2
  refine ⟨F2, z.2.r, z.1, q.1, q.2, I2.sub, I2.at_, I2.foot, r2, by rw [← r2.length, hl], e3, fun F' v H' l r => ?_⟩
  have hres : q.1 = res ∧ s' = (if isAtom res then { p.2 with r := q.2 } else { z.2 with r := q.2 }) := by
    revert e
    cases q.1 with
    | sl i => intro e; cases e
    | sh d => intro e; cases e; exact ⟨rfl, rfl⟩
    | tmp d => intro e; cases e; exact ⟨rfl, rfl⟩
  obtain ⟨hq, hs⟩ := hres
  rw [hq] at r
  cases ha : isAtom res with
  | true =>
    rw [ha, if_pos rfl] at hs
    subst hs
    obtain ⟨I3, K3⟩ := I1.left0 l
    refine k F1 v H' I3 (K1.trans K3 I3) ?_
    cases res with
    | sh d => exact atom_any ha r
    | tmp d => cases ha
    | sl i => cases ha
  | false =>
    rw [ha, if_neg Bool.false_ne_true] at hs
    subst hs
    obtain ⟨I3, K3⟩ := I2.left l
    have K13 := (K1.trans K2 I2).trans K3 I3
    refine k F' v H' I3 K13 ?_
    cases res with
    | sh d => exact r
    | tmp d =>
      obtain ⟨a, o, rfl, h0, h1, h2, h3, h4⟩ := r
      refine ⟨a, o, rfl, ?_, h1, h2, fun y => ?_, h3, h4⟩
      · cases u : H a with
        | none => rfl
        | some w => obtain ⟨o', e'⟩ := K1.there a w u; rw [h0] at e'; cases e'
      · obtain ⟨o', e', _⟩ := (I2.own_at (s := z.2) y).2.2
        rw [h0] at e'; cases e'
    | sl i => exact r.elim
theorem d_call {k : Nat} {f : Addr} {fd : FuncData} {ps : List Str} {n : Nat} {mf : Fm g.R.S} {x : Str} {p pos : Pos} {e : Expr} {es : List Expr} {ma : M g.R.S (List Vr)} (F : FnG X.prog X.w X.K X.mg X.base k f fd ps (spM g n mf)) (hr : Room k X.A) (gd : X.A.guards = some []) (hg : Gl X x) (hm : X.mg x = some (.ref f)) (hk : PySem.W.keepIn X.K (.ref f) = true) (hb : Binds X.K fd ps [])
    (ha : DA g X n (e :: es) ma) (hdb : (x == ("__debug__" : Str)) = false := by decide) (he : starEach (e :: es) X.env = (false, eval e X.env) :: starEach es X.env := by rfl) (hpl : (backTo pos (starEach es X.env)).any (·.1) = false := by rfl) :
    DE g X (.Call (.Name x p) (e :: es) [] pos) (mCall mf ma) := by
  refine PE.imp (pg_call F hr gd hg hm hk hb ha hdb he hpl) fun σ H Q h => ?_
  obtain ⟨F, s, rs, s', I, e, k⟩ := tCall_of (n := n) (E := E0) h
  exact ⟨F, s, rs, s', I, e, fun F' vs H' a b c d => k F' vs H' a b c d⟩
inductive Fl where
  | nx | bk | ct | rt (v : Vr)
abbrev MS (R : Type) := M R Fl
def XOk (g : G) (F : Hp) (σ0 : St) (e0 : List (Option Cell)) (H0 H : Hp) : Vr → V → Prop
  | .sh d, v => Rep g F v d
  | .tmp d, v => ∃ p o, v = .ref p ∧ (Own σ0 e0 p ∨ H0 p = none) ∧ F p = none ∧ ¬ g.R.foot p ∧ H p = some o ∧ RepO g F o d
  | .sl _, _ => False
theorem XOk.base {F F1 F' : Hp} {s s1 : S g.R.S} {σ σ1 : St} {H H1 H' : Hp} {res : Vr} {v : V} (K : Keep g F s σ H F1 s1 σ1 H1) (r : XOk g F' σ1 s1.e H1 H' res v) : XOk g F' σ s.e H H' res v := by
  cases res with
  | sh d => exact r
  | sl i => exact r
  | tmp d =>
    obtain ⟨p, o, rfl, h0, h⟩ := r
    refine ⟨p, o, rfl, ?_, h⟩
    rcases h0 with h0 | h0
    · exact K.own p h0
    · right
      cases q : H p with
      | none => rfl
      | some u => obtain ⟨o', e⟩ := K.there p u q; rw [h0] at e; cases e
def Out (g : G) (E : Ends) (F : Hp) (s : S g.R.S) (σ : St) (H : Hp) (s' : S g.R.S) : Fl → Prop
  | .nx => ∀ F' σ' H', Sim g F' s' σ' H' → Keep g F s σ H F' s' σ' H' → E.nx σ' H'
  | .bk => ∀ F' σ' H', Sim g F' s' σ' H' → Keep g F s σ H F' s' σ' H' → E.bk σ' H'
  | .ct => ∀ F' σ' H', Sim g F' s' σ' H' → Keep g F s σ H F' s' σ' H' → E.ct σ' H'
  | .rt res => ∀ F' σ' v H', Sim g F' s' σ' H' → Keep g F s σ H F' s' σ' H' → XOk g F' σ s.e H H' res v → E.rt v H'
def tS (g : G) (m : MS g.R.S) : TS := fun E σ H => ∃ F s fl s', Sim g F s σ H ∧ m s = some (fl, s') ∧ Out g E F s σ H s' fl
def DS (g : G) (X : Cx) (st : Stmt) (m : MS g.R.S) : Prop := PS X st (tS g m)
def DB (g : G) (X : Cx) (sts : List Stmt) (m : MS g.R.S) : Prop := PSs X sts (tS g m)
theorem PS.imp {X : Cx} {e : Stmt} {t t' : TS} (h : PS X e t) (w : ∀ E σ H, t' E σ H → t E σ H) : PS X e t' := ⟨fun pins s σ H E I q => h.run pins s σ H E I (w _ _ _ q)⟩
theorem PSs.imp {X : Cx} {e : List Stmt} {t t' : TS} (h : PSs X e t) (w : ∀ E σ H, t' E σ H → t E σ H) : PSs X e t' := ⟨fun pins s σ H E I q => h.run pins s σ H E I (w _ _ _ q)⟩
theorem Out.base {E : Ends} {F F1 : Hp} {s s1 s' : S g.R.S} {σ σ1 : St} {H H1 : Hp} {fl : Fl} (K : Keep g F s σ H F1 s1 σ1 H1) (o : Out g E F s σ H s' fl) : Out g E F1 s1 σ1 H1 s' fl := by
  cases fl with
  | nx => exact fun F' σ' H' I' K' => o F' σ' H' I' (K.trans K' I')
  | bk => exact fun F' σ' H' I' K' => o F' σ' H' I' (K.trans K' I')
  | ct => exact fun F' σ' H' I' K' => o F' σ' H' I' (K.trans K' I')
  | rt res => exact fun F' σ' v H' I' K' r => o F' σ' v H' I' (K.trans K' I') (r.base K)
def mNx {R : Type} : MS R := fun s => some (.nx, s)
def mSeq {R : Type} (m n : MS R) : MS R := fun s => (m s).bind fun p => match p.1 with
  | .nx => n p.2
  | f => some (f, p.2)
theorem b_nil : DB g X [] mNx := PSs.imp pss_nil fun E σ H ⟨F, s, fl, s', I, e, o⟩ => by
  cases e
  exact o F σ H I Keep.refl
theorem b_cons {st : Stmt} {rest : List Stmt} {m n : MS g.R.S} (h1 : DS g X st m) (h2 : DB g X rest n) : DB g X (st :: rest) (mSeq m n) := by
  refine PSs.imp (pss_cons h1 h2) fun E σ H ⟨F, s, fl, s', I, e, o⟩ => ?_
  unfold mSeq at e
  obtain ⟨⟨f, s1⟩, e1, e⟩ := Option.bind_eq_some_iff.mp e
  refine ⟨F, s, f, s1, I, e1, ?_⟩
  cases f with
  | nx => exact fun F' σ' H' I' K' => ⟨F', s1, fl, s', I', e, o.base K'⟩
  | bk => cases e; exact o
  | ct => cases e; exact o
  | rt r => cases e; exact o
theorem b_one {st : Stmt} {m : MS g.R.S} (h1 : DS g X st m) : DB g X [st] m := pss_one h1
def mBk {R : Type} : MS R := fun s => some (.bk, s)
def mCt {R : Type} : MS R := fun s => some (.ct, s)
def mNo {R : Type} : MS R := fun _ => none
def mEx {R : Type} (ma : M R Vr) : MS R := fun s => (ma s).map fun p => (.nx, p.2)
theorem s_expr {e : Expr} {ma : M g.R.S Vr} {pos : Pos} (h : DE g X e ma) (hs : swapsWith e none pos.line X.env = pure false := by rfl) : DS g X (.Expr e pos) (mEx ma) := PS.imp (ps_expr h hs) fun E σ H ⟨F, s, fl, s', I, e, o⟩ => by
  unfold mEx at e
  obtain ⟨p, e1, e⟩ := Option.map_eq_some_iff.mp e
  cases e
  exact ⟨F, s, p.1, p.2, I, e1, fun F' v H' I' K' _ => o F' σ H' I' K'⟩
def mRt {R : Type} (ma : M R Vr) : MS R := fun s => (ma s).bind fun p => match p.1 with
  | .sl i => match p.2.e[i]? with
    | some (some c) => some (.rt (if c.own then .tmp c.d else .sh c.d), p.2)
    | _ => none
  | r => some (.rt r, p.2)
theorem s_ret {e : Expr} {ma : M g.R.S Vr} {pos : Pos} (h : DE g X e ma) : DS g X (.Return (some e) pos) (mRt ma) := PS.imp (ps_ret h) fun E σ H ⟨F, s, fl, s', I, e, o⟩ => by
  unfold mRt at e
  obtain ⟨⟨r, s1⟩, e1, e⟩ := Option.bind_eq_some_iff.mp e
  refine ⟨F, s, r, s1, I, e1, fun F' v H' I' K' w => ?_⟩
  cases r with
  | sh d => cases e; exact o F' σ v H' I' K' w
  | tmp d =>
    cases e
    obtain ⟨p, q, rfl, h0, h1, h2, h3, h4, h5⟩ := w
    exact o F' σ _ H' I' K' ⟨p, q, rfl, .inr h0, h1, h2, h4, h5⟩
  | sl i =>
    have w : σ[i]? = some (some v) := w
    have e : (match s1.e[i]? with | some (some c) => some (Fl.rt (if c.own then .tmp c.d else .sh c.d), s1) | _ => none) = some (fl, s') := e
    split at e
    · rename_i c ec
      cases e
      obtain ⟨v', f1, q⟩ := I'.cell i c ec
      rw [w] at f1; cases f1
      rcases q with ⟨ho, q⟩ | ⟨ho, p, oo, rfl, b2, b3, b4, b5⟩
      · rw [ho] at o; exact o F' σ _ H' I' K' q
      · rw [ho] at o
        exact o F' σ _ H' I' K' ⟨p, oo, rfl, K'.own p ⟨i, c, ec, ho, w⟩, b2, b3, b4, b5⟩
    · cases e
def mRtN {R : Type} : MS R := fun s => some (.rt (.sh .non), s)
def mIte {R : Type} (mc : M R Vr) (m n : MS R) : MS R := fun s => (mc s).bind fun p => match p.1 with
  | .sh (.bl true) => m p.2
  | .sh (.bl false) => n p.2
  | _ => none
theorem mIte_inv {mc : M g.R.S Vr} {m n : MS g.R.S} {s : S g.R.S} {x : Fl × S g.R.S} (e : mIte mc m n s = some x) : ∃ b s', mc s = some (.sh (.bl b), s') ∧ (if b = true then m s' = some x else n s' = some x) := by
  obtain ⟨b, s', e1, e2⟩ := first_bl (F := fun v s' => match v with
    | .sh (.bl true) => m s'
    | .sh (.bl false) => n s'
    | _ => none) (ma := mc) (s := s) e (fun v s' h => by
      cases v with
      | sh d => cases d with
        | bl b => exact ⟨b, rfl⟩
        | _ => cases h
      | _ => cases h)
  refine ⟨b, s', e1, ?_⟩
  cases b with
  | true => exact e2
  | false => exact e2
theorem s_if {c : Expr} {a b : List Stmt} {mc : M g.R.S Vr} {m n : MS g.R.S} {pos : Pos} (hc : DT g X c mc) (ha : DB g X a m) (hb : DB g X b n) : DS g X (.If c a b pos) (mIte mc m n) := by
  refine PS.imp (ps_if hc ha hb) fun E σ H ⟨F, s, fl, s', I, e, o⟩ => ?_
  obtain ⟨c, s1, e1, e2⟩ := mIte_inv e
  refine ⟨F, s, c, s1, I, e1, fun F1 H1 I1 K1 => ?_⟩
  cases c with
  | true => exact ⟨F1, s1, fl, s', I1, e2, o.base K1⟩
  | false => exact ⟨F1, s1, fl, s', I1, e2, o.base K1⟩
end
end RW
namespace RW
open PySem L2
section
variable {g : G} {X : Cx}
theorem Sim.set {F : Hp} {s : S g.R.S} {σ : St} {H : Hp} (I : Sim g F s σ H) (i : Nat) {c : Cell} {v : V} (q : CellOk g F H c v) (hap : c.own = true → ∀ p, v = .ref p → ∀ j cj, j ≠ i → s.e[j]? = some (some cj) → cj.own = true → σ[j]? ≠ some (some (.ref p))) :
    Sim g F { s with e := s.e.set i (some c) } (σ.set i (some v)) H := by
  have len : (s.e.set i (some c)).length = (σ.set i (some v)).length := by simpa using I.len
  refine ⟨I.sub, I.at_, I.foot, len, fun j cj ej => ?_, fun j k cj ck a hne ej ek oj ok hj => ?_⟩
  · by_cases hj : j = i
    · subst hj
      have hl : j < s.e.length := by
        have := (List.getElem?_eq_some_iff.mp ej).1
        simpa using this
      rw [show ({ s with e := s.e.set j (some c) } : S g.R.S).e = s.e.set j (some c) from rfl, List.getElem?_set_self hl] at ej
      cases ej
      exact ⟨v, List.getElem?_set_self (by rw [← I.len]; exact hl), q⟩
    · rw [show ({ s with e := s.e.set i (some c) } : S g.R.S).e = s.e.set i (some c) from rfl, List.getElem?_set_ne (Ne.symm hj)] at ej
      rw [List.getElem?_set_ne (Ne.symm hj)]
      exact I.cell j cj ej
  · replace ej : (s.e.set i (some c))[j]? = some (some cj) := ej
    replace ek : (s.e.set i (some c))[k]? = some (some ck) := ek
    have hl : ∀ {m : Nat} {cm : Cell}, (s.e.set i (some c))[m]? = some (some cm) → m < s.e.length := fun {m cm} h => by
      have := (List.getElem?_eq_some_iff.mp h).1
      simpa using this
    by_cases h1 : j = i
    · subst h1
      have l := hl ej
      rw [List.getElem?_set_self l] at ej
      cases ej
      rw [List.getElem?_set_self (by rw [← I.len]; exact l)] at hj
      cases hj
      have hk : k ≠ j := Ne.symm hne
      rw [List.getElem?_set_ne hne] at ek ⊢
      exact hap oj a rfl k ck hk ek ok
    · rw [List.getElem?_set_ne (Ne.symm h1)] at ej hj
      by_cases h2 : k = i
      · subst h2
        have l := hl ek
        rw [List.getElem?_set_self l] at ek
        cases ek
        rw [List.getElem?_set_self (by rw [← I.len]; exact l)]
        intro z
        cases z
        exact hap ok a rfl j cj h1 ej oj hj
      · rw [List.getElem?_set_ne (Ne.symm h2)] at ek ⊢
        exact I.apart j k cj ck a hne ej ek oj ok hj
theorem Own.set {e : List (Option Cell)} {σ : St} {i : Nat} {c : Cell} {v : V} {a : Addr} (hl : e.length = σ.length) (h : Own (σ.set i (some v)) (e.set i (some c)) a) : Own σ e a ∨ (c.own = true ∧ v = .ref a) := by
  obtain ⟨j, cj, h1, h2, h3⟩ := h
  by_cases hj : j = i
  · subst hj
    have l : j < e.length := by
      have := (List.getElem?_eq_some_iff.mp h1).1
      simpa using this
    rw [List.getElem?_set_self l] at h1
    cases h1
    rw [List.getElem?_set_self (by rw [← hl]; exact l)] at h3
    cases h3
    exact .inr ⟨h2, rfl⟩
  · rw [List.getElem?_set_ne (Ne.symm hj)] at h1 h3
    exact .inl ⟨j, cj, h1, h2, h3⟩
def put {R : Type} (i : Nat) (r : Vr) (s : S R) : Option (S R) := match r with
  | .sh d => some { s with e := s.e.set i (some ⟨d, false⟩) }
  | .tmp d => some { s with e := s.e.set i (some ⟨d, true⟩) }
  | .sl _ => none
def hard {R : Type} (r : Vr) : M R Vr := fun s => match r with
  | .sl i => (esc (.sl i) s).map fun p => (.sh p.1, p.2)
  | r => some (r, s)
theorem VOk.keep {F F1 : Hp} {s s1 : S g.R.S} {σ : St} {H0 H H1 : Hp} {r : Vr} {v : V} (h : VOk g F s σ H0 H r v) (K : Keep g F s σ H F1 s1 σ H1) : VOk g F1 s1 σ H0 H1 r v := by
  cases r with
  | sh d => exact Rep.mono K.grow h
  | sl i => exact h
  | tmp d =>
    obtain ⟨p, o, rfl, h0, h1, h2, h3, h4, h5⟩ := h
    refine ⟨p, o, rfl, h0, K.nof p o h4 h5.nt h1 h3, h2, fun z => ?_, K.heap p o h4 h3 h2, h5.mono K.grow⟩
    rcases K.own p z with z | z
    · exact h3 z
    · rw [h4] at z; cases z
theorem hard_ok {F : Hp} {s s' : S g.R.S} {σ : St} {H0 H : Hp} {r r' : Vr} {v : V} (I : Sim g F s σ H) (h : VOk g F s σ H0 H r v) (e : hard r s = some (r', s')) : ∃ F', Sim g F' s' σ H ∧ Keep g F s σ H F' s' σ H ∧ VOk g F' s' σ H0 H r' v ∧ ∀ i, r' ≠ .sl i := by
  cases r with
  | sh d => cases e; exact ⟨F, I, Keep.refl, h, fun _ z => nomatch z⟩
  | tmp d => cases e; exact ⟨F, I, Keep.refl, h, fun _ z => nomatch z⟩
  | sl i =>
    obtain ⟨p, e1, e⟩ := Option.map_eq_some_iff.mp (show (esc (.sl i) s).map (fun p => (Vr.sh p.1, p.2)) = some (r', s') from e)
    cases e
    obtain ⟨F', I', K', r⟩ := esc_ok (r := .sl i) I h e1
    exact ⟨F', I', K', r, fun _ z => nomatch z⟩
theorem put_ok {F F0 : Hp} {s s0 s' : S g.R.S} {σ σ0 : St} {H0 H : Hp} {i : Nat} {r : Vr} {v : V} (I : Sim g F s σ H) (K : Keep g F0 s0 σ0 H0 F s σ H) (h : VOk g F s σ H0 H r v) (e : put i r s = some s') : Sim g F s' (σ.set i (some v)) H ∧ Keep g F0 s0 σ0 H0 F s' (σ.set i (some v)) H := by
  cases r with
  | sl j => cases e
  | sh d =>
    cases e
    have h : Rep g F v d := h
    refine ⟨I.set i (.inl ⟨rfl, h⟩) (fun z => nomatch z), ⟨K.heap, K.grow, K.nof, fun a z => ?_, K.there⟩⟩
    rcases z.set I.len with z | ⟨z, _⟩
    · exact K.own a z
    · cases z
  | tmp d =>
    cases e
    obtain ⟨p, o, rfl, h0, h1, h2, h3, h4, h5⟩ := h
    refine ⟨I.set i (.inr ⟨rfl, p, o, rfl, h1, h2, h4, h5⟩) fun _ q eq j cj hj ej oj z => ?_, ⟨K.heap, K.grow, K.nof, fun a z => ?_, K.there⟩⟩
    · cases eq
      exact h3 ⟨j, cj, ej, oj, z⟩
    · rcases z.set I.len with z | ⟨_, z⟩
      · exact K.own a z
      · cases z
        exact .inr h0
def mSet {R : Type} (i : Nat) (ma : M R Vr) : MS R := fun s => (ma s).bind fun p => (hard p.1 p.2).bind fun q => (put i q.1 q.2).map fun s' => (.nx, s')
theorem tSet_of {i : Nat} {ma : M g.R.S Vr} {E : Ends} {σ : St} {H : Hp} (h : tS g (mSet i ma) E σ H) : tM g ma σ H fun x H1 => E.nx (σ.set i (some x)) H1 := by
  obtain ⟨F, s, fl, s', I, e, o⟩ := h
  unfold mSet at e
  obtain ⟨p, e1, e⟩ := Option.bind_eq_some_iff.mp e
  obtain ⟨q, e2, e⟩ := Option.bind_eq_some_iff.mp e
  obtain ⟨s2, e3, e⟩ := Option.map_eq_some_iff.mp e
  cases e
  refine ⟨F, s, p.1, p.2, I, e1, fun F1 v H1 I1 K1 w => ?_⟩
  obtain ⟨F2, I2, K2, w2, _⟩ := hard_ok I1 w e2
  have K12 := K1.trans K2 I2
  obtain ⟨I3, K3⟩ := put_ok I2 K12 w2 e3
  exact o F2 _ H1 I3 K3
theorem s_set {i : Nat} {x : Str} {e : Expr} {ma : M g.R.S Vr} {pos' pos : Pos} (hN : X.N.Nodup) (he : DE g X e ma) (hi : X.N[i]? = some x := by rfl) (hx : Loc X.env.scope x := by first | exact Or.inl rfl | exact Or.inr rfl) (hs : swapsWith e (some (.Name x pos')) pos.line X.env = pure false := by rfl)
    (hf : X.fn x = true ∨ X.env.scope.names.lookup x = some .local := by first | exact .inl rfl | exact .inr rfl | assumption) : DS g X (.Assign [.Name x pos'] e pos) (mSet i ma) :=
  PS.imp (ps_set hN hi hx he hs hf) fun E σ H h => tSet_of h
theorem VOk.put {F : Hp} {s s' : S g.R.S} {σ : St} {H0 H : Hp} {i : Nat} {r r2 : Vr} {v v2 : V} (hl : s.e.length = σ.length) (h : VOk g F s σ H0 H r v) (h2 : VOk g F s σ H0 H r2 v2) (hne : ∀ d d2, r = .tmp d → r2 = .tmp d2 → v ≠ v2) (hs2 : ∀ i, r2 ≠ .sl i) (e : put i r s = some s') : VOk g F s' (σ.set i (some v)) H0 H r2 v2 := by
  cases r2 with
  | sl j => exact (hs2 j rfl).elim
  | sh d => exact h2
  | tmp d2 =>
    obtain ⟨p, o, rfl, a0, a1, a2, a3, a4, a5⟩ := h2
    refine ⟨p, o, rfl, a0, a1, a2, fun z => ?_, a4, a5⟩
    cases r with
    | sl j => cases e
    | sh d =>
      cases e
      rcases z.set hl with z | ⟨z, _⟩
      · exact a3 z
      · cases z
    | tmp d =>
      cases e
      rcases z.set hl with z | ⟨_, z⟩
      · exact a3 z
      · exact hne d d2 rfl rfl z
end
end RW
namespace RW
open PySem L2
section
variable {g : G} {X : Cx}
def NotIn (v : V) : List Vr → List V → Prop
  | r :: rs, u :: us => ((∃ d, r = .tmp d) → v ≠ u) ∧ NotIn v rs us
  | _, _ => True
def VAll (g : G) (F : Hp) (s : S g.R.S) (σ : St) (H0 H : Hp) : List Vr → List V → Prop
  | [], [] => True
  | r :: rs, v :: vs => VOk g F s σ H0 H r v ∧ (∀ i, r ≠ .sl i) ∧ ((∃ d, r = .tmp d) → NotIn v rs vs) ∧ VAll g F s σ H0 H rs vs
  | _, _ => False
def mHards {R : Type} : List (M R Vr) → M R (List Vr)
  | [] => fun s => some ([], s)
  | m :: ms => fun s => (m s).bind fun p => (hard p.1 p.2).bind fun p' => (mHards ms p'.2).map fun q => (p'.1 :: q.1, q.2)
theorem VAll.new {F : Hp} {s : S g.R.S} {σ : St} {H H1 : Hp} : ∀ {rs : List Vr} {vs : List V}, VAll g F s σ H H1 rs vs → ∀ {p : Addr} {o : HO}, H p = some o → NotIn (.ref p) rs vs
  | [], [], _, _, _, _ => trivial
  | r :: rs, v :: vs, h, p, o, e => by
    refine ⟨fun ⟨d, hr⟩ z => ?_, VAll.new h.2.2.2 e⟩
    have h1 := h.1
    rw [hr] at h1
    obtain ⟨q, o', r1, r2, _⟩ := h1
    rw [r1] at z; cases z
    rw [e] at r2; cases r2
  | [], _ :: _, h, _, _, _ => h.elim
  | _ :: _, [], h, _, _, _ => h.elim
theorem VAll.base {F F1 F' : Hp} {s s1 s' : S g.R.S} {σ σ1 : St} {H H1 H' : Hp} (K1 : Keep g F s σ1 H F1 s1 σ H1) : ∀ {rs : List Vr} {vs : List V}, VAll g F' s' σ H1 H' rs vs → VAll g F' s' σ H H' rs vs
  | [], [], _ => trivial
  | _ :: _, _ :: _, h => ⟨h.1.base K1, h.2.1, h.2.2.1, VAll.base K1 h.2.2.2⟩
  | [], _ :: _, h => h.elim
  | _ :: _, [], h => h.elim
def puts {R : Type} : List Nat → List Vr → S R → Option (S R)
  | [], [], s => some s
  | i :: is, r :: rs, s => (put i r s).bind fun s1 => puts is rs s1
  | _, _, _ => none
theorem VAll.put {F : Hp} {s s' : S g.R.S} {σ : St} {H0 H : Hp} {i : Nat} {r : Vr} {v : V} (hl : s.e.length = σ.length) (h : VOk g F s σ H0 H r v) (e : put i r s = some s') : ∀ {rs : List Vr} {vs : List V}, VAll g F s σ H0 H rs vs → ((∃ d, r = .tmp d) → NotIn v rs vs) → VAll g F s' (σ.set i (some v)) H0 H rs vs
  | [], [], _, _ => trivial
  | r2 :: rs, v2 :: vs, w, hn => ⟨VOk.put hl h w.1 (fun d d2 z1 z2 => (hn ⟨d, z1⟩).1 ⟨d2, z2⟩) w.2.1 e, w.2.1, w.2.2.1, VAll.put hl h e w.2.2.2 fun z => (hn z).2⟩
  | [], _ :: _, w, _ => w.elim
  | _ :: _, [], w, _ => w.elim
def mPar {R : Type} (is : List Nat) (ms : List (M R Vr)) : MS R := fun s => (mHards ms s).bind fun p => (puts is p.1 p.2).map fun s' => (.nx, s')
theorem VAll.ext {F F' : Hp} {s : S g.R.S} {σ : St} {H0 H H' : Hp} (x : Ext F H F' H') : ∀ {rs : List Vr} {vs : List V}, VAll g F s σ H0 H rs vs → VAll g F' s σ H0 H' rs vs
  | [], [], _ => trivial
  | _ :: _, _ :: _, h => ⟨h.1.keep (Keep.ext x), h.2.1, h.2.2.1, VAll.ext x h.2.2.2⟩
  | [], _ :: _, h => h.elim
  | _ :: _, [], h => h.elim
end
end RW
namespace RW
open PySem L2
def SyW (g : G) (w : World) (base : Heap) : Prop := (∃ u, base.get? sysModules = some u) ∧ w = g.w
structure XO (g : G) (k : Nat) (X : Cx) : Prop where
  K : X.K = g.K
  rm : Room k X.A
  calm : X.calm = true
  nd : X.N.Nodup
  gd : X.A.guards = some []
  sy : SyW g X.w X.base
theorem XO.blk {g : G} {k : Nat} {X : Cx} (o : XO g k X) {s : Shared} {H : Hp} {sc : Scope} {ce : Env} {fp : List Addr} : XO g k (X.blk s H sc ce fp) := ⟨o.K, o.rm, o.calm, o.nd, o.gd, o.sy⟩
theorem XO.hu {g : G} {k : Nat} {X : Cx} (o : XO g k X) : X.A.units + 1 < cLine := hu_of o.rm
theorem XO.hu64 {g : G} {k : Nat} {X : Cx} (o : XO g k X) : X.A.units + 64 < cLine := o.rm.units
theorem XO.mono {g : G} {j k : Nat} {X : Cx} (o : XO g k X) (h : j ≤ k) : XO g j X := ⟨o.K, o.rm.mono h, o.calm, o.nd, o.gd, o.sy⟩
section
variable {g : G} {X : Cx} {F H : Hp}
theorem Pk.lst {v : V} {ds : List D} (h : Sub F H) (p : Pk g F H v (.lst ds)) : ∃ a xs, v = .ref a ∧ H a = some (.lst xs) ∧ RepAll g F xs ds := by
  rcases p with p | ⟨a, o, rfl, e, p⟩
  · cases p with
    | ref e q =>
      cases q with
      | lst q =>
        rcases h _ _ e with z | ⟨z, _⟩
        · exact ⟨_, _, rfl, z, q⟩
        · rcases z with ⟨_, z⟩ | ⟨_, z⟩ | ⟨_, _, _, z⟩ <;> cases z
  · cases p with
    | lst q => exact ⟨_, _, rfl, e, q⟩
theorem Pk.tup {v : V} {ds : List D} (h : Sub F H) (p : Pk g F H v (.tup ds)) : ∃ a xs, v = .ref a ∧ SqT g.K H a xs ∧ RepAll g F xs ds := by
  rcases p with p | ⟨a, o, rfl, e, p⟩
  · cases p with
    | ref e q => cases q
    | tup e q =>
      rcases h _ _ e with z | ⟨z, _⟩
      · exact ⟨_, _, rfl, SqT.of z, q⟩
      · rcases z with ⟨_, z⟩ | ⟨_, z⟩ | ⟨_, _, _, z⟩ <;> cases z
    | kt e q _ => exact ⟨_, _, rfl, .inr e, q⟩
  · cases p
theorem Pk.dK {v : V} {es : List (D × D)} (h : Sub F H) (p : Pk g F H v (.dct false es)) : ∃ a kvs, v = .ref a ∧ Rd H a (.dK kvs) ∧ RepK g F kvs es := by
  rcases p with p | ⟨a, o, rfl, e, p⟩
  · cases p with
    | ref e q =>
      cases q with
      | dK q =>
        rcases h _ _ e with z | ⟨_, ob, z⟩
        · exact ⟨_, _, rfl, .inl z, q⟩
        · exact ⟨_, _, rfl, .inr ⟨ob, z⟩, q⟩
  · cases p with
    | dK q => exact ⟨_, _, rfl, .inl e, q⟩
theorem Pk.dT {v : V} {es : List (D × D)} (h : Sub F H) (p : Pk g F H v (.dct true es)) : ∃ a kvs, v = .ref a ∧ Rd H a (.dT kvs) ∧ RepT g F kvs es := by
  rcases p with p | ⟨a, o, rfl, e, p⟩
  · cases p with
    | ref e q =>
      cases q with
      | dT q =>
        rcases h _ _ e with z | ⟨_, ob, z⟩
        · exact ⟨_, _, rfl, .inl z, q⟩
        · exact ⟨_, _, rfl, .inr ⟨ob, z⟩, q⟩
  · cases p with
    | dT q => exact ⟨_, _, rfl, .inl e, q⟩
theorem Pk.obj {v : V} {c : Nat} {ds : List (Str × D)} (h : Sub F H) (p : Pk g F H v (.obj c ds)) : ∃ a dx fs, v = .ref a ∧ H a = some (.ins (g.cls c) dx fs) ∧ RepF g F fs ds := by
  rcases p with p | ⟨a, o, rfl, e, p⟩
  · cases p with
    | ref e q =>
      cases q with
      | ins q =>
        rcases h _ _ e with z | ⟨z, _⟩
        · exact ⟨_, _, _, rfl, z, q⟩
        · rcases z with ⟨_, z⟩ | ⟨_, z⟩ | ⟨_, _, _, z⟩ <;> cases z
  · cases p with
    | ins q => exact ⟨_, _, _, rfl, e, q⟩
theorem Pk.non {v : V} (p : Pk g F H v .non) : v = .non := by
  rcases p with p | ⟨_, _, _, _, p⟩
  · cases p with
    | non => rfl
    | ref _ q => cases q
  · cases p
theorem Pk.bl {v : V} {b : Bool} (p : Pk g F H v (.bl b)) : v = .bl b := by
  rcases p with p | ⟨_, _, _, _, p⟩
  · cases p with
    | bl => rfl
    | ref _ q => cases q
  · cases p
theorem Pk.int {v : V} {i : Int} (p : Pk g F H v (.int i)) : v = .int i := by
  rcases p with p | ⟨_, _, _, _, p⟩
  · cases p with
    | int => rfl
    | ref _ q => cases q
  · cases p
theorem Pk.str {v : V} {x : Str} (p : Pk g F H v (.str x)) : v = .str x := by
  rcases p with p | ⟨_, _, _, _, p⟩
  · cases p with
    | str => rfl
    | ref _ q => cases q
  · cases p
theorem Pk.scr {v : V} {ns : List Int} (h : Sub F H) (p : Pk g F H v (.scr ns)) : ∃ a, v = .ref a ∧ SqL g.K H a (ns.map V.int) := by
  rcases p with p | ⟨a, o, rfl, e, p⟩
  · cases p with
    | kscr q => exact ⟨_, rfl, q H⟩
    | ref e q =>
      cases q with
      | scr =>
        rcases h _ _ e with z | ⟨z, _⟩
        · exact ⟨_, rfl, .inl (.inr ⟨_, z⟩)⟩
        · rcases z with ⟨_, z⟩ | ⟨_, z⟩ | ⟨_, _, _, z⟩ <;> cases z
  · cases p with
    | scr => exact ⟨_, rfl, .inl (.inr ⟨_, e⟩)⟩
inductive Tg where
  | nm (i : Nat) | tp (ts : List Tg)
mutual
def bindT : Tg → D → List (Option Cell) → Option (List (Option Cell))
  | .nm i, d, e => some (e.set i (some ⟨d, false⟩))
  | .tp ts, .tup ds, e => bindTs ts ds e
  | .tp ts, .lst ds, e => bindTs ts ds e
  | .tp _, _, _ => none
def bindTs : List Tg → List D → List (Option Cell) → Option (List (Option Cell))
  | [], [], e => some e
  | t :: ts, d :: ds, e => (bindT t d e).bind fun e' => bindTs ts ds e'
  | _, _, _ => none
end
theorem bindTs_len : ∀ {ts : List Tg} {ds : List D} {e e' : List (Option Cell)}, bindTs ts ds e = some e' → ts.length = ds.length
  | [], [], _, _, _ => rfl
  | _ :: ts, _ :: ds, e, e', h => by
    unfold bindTs at h
    obtain ⟨e1, _, h⟩ := Option.bind_eq_some_iff.mp h
    simp [bindTs_len h]
  | [], _ :: _, _, _, h => by unfold bindTs at h; cases h
  | _ :: _, [], _, _, h => by unfold bindTs at h; cases h
mutual
def tSlots : Tg → List Nat
  | .nm i => [i]
  | .tp ts => tSlotss ts
def tSlotss : List Tg → List Nat
  | [] => []
  | t :: ts => tSlots t ++ tSlotss ts
end
def tG (g : G) (T : Tg) : TG := fun v σ H Q => ∃ F s d e', Sim g F s σ H ∧ Rep g F v d ∧ bindT T d s.e = some e' ∧ ∀ σ', Sim g F { s with e := e' } σ' H → (∀ a, Own σ' e' a → Own σ s.e a) → (∀ j, j ∉ tSlots T → σ'[j]? = σ[j]?) → Q σ' H
def tGs (g : G) (Ts : List Tg) : TGs := fun vs σ H Q => ∃ F s ds e', Sim g F s σ H ∧ RepAll g F vs ds ∧ bindTs Ts ds s.e = some e' ∧ ∀ σ', Sim g F { s with e := e' } σ' H → (∀ a, Own σ' e' a → Own σ s.e a) → (∀ j, j ∉ tSlotss Ts → σ'[j]? = σ[j]?) → Q σ' H
theorem PG.imp {tg : Expr} {t t' : TG} (h : PG X tg t) (w : ∀ v σ H Q, t' v σ H Q → t v σ H Q) : PG X tg t' := ⟨fun pins s σ H v u Q I r q => h.run pins s σ H v u Q I r (w _ _ _ _ q)⟩
theorem PGs.imp {tg : List Expr} {t t' : TGs} (h : PGs X tg t) (w : ∀ v σ H Q, t' v σ H Q → t v σ H Q) : PGs X tg t' := ⟨fun pins s σ H vs us Q I r q => h.run pins s σ H vs us Q I r (w _ _ _ _ q)⟩
theorem PG.or {tg : Expr} {t t' : TG} (h : PG X tg t) (h' : PG X tg t') : PG X tg (fun v σ H Q => t v σ H Q ∨ t' v σ H Q) := ⟨fun pins s σ H v u Q I r q => q.elim (h.run pins s σ H v u Q I r) (h'.run pins s σ H v u Q I r)⟩
theorem g_name {x : Str} {pos : Pos} {i : Nat} (hN : X.N.Nodup) (hi : X.N[i]? = some x := by rfl) (hx : Loc X.env.scope x := by first | exact Or.inl rfl | exact Or.inr rfl)
    (hf : X.fn x = true ∨ X.env.scope.names.lookup x = some .local := by first | exact .inl rfl | exact .inr rfl | assumption) : PG X (.Name x pos) (tG g (.nm i)) := by
  refine PG.imp (pg_name hN hi hx hf) fun v σ H Q ⟨F, s, d, e', I, r, e, k⟩ => ?_
  cases e
  refine k _ (I.set i (.inl ⟨rfl, r⟩) (fun z => nomatch z)) (fun a z => ?_) (fun j hj => List.getElem?_set_ne fun z => hj (by simp [tSlots, z]))
  rcases z.set I.len with z | ⟨z, _⟩
  · exact z
  · cases z
theorem ts_nil : PGs X [] (tGs g []) := PGs.imp pgs_nil fun vs σ H Q ⟨F, s, ds, e', I, r, e, k⟩ => by
  cases r with
  | nil => cases e; exact ⟨rfl, k σ I (fun _ h => h) fun _ _ => rfl⟩
  | cons _ _ => cases e
theorem ts_cons {e : Expr} {es : List Expr} {T : Tg} {Ts : List Tg} (h1 : PG X e (tG g T)) (h2 : PGs X es (tGs g Ts)) (hs : (assignEach (e :: es) X.env).map (·.2) = assign e X.env :: (assignEach es X.env).map (·.2) := by rfl) : PGs X (e :: es) (tGs g (T :: Ts)) := by
  refine PGs.imp (pgs_cons h1 h2 hs) fun vs σ H Q ⟨F, s, ds, e', I, r, e, k⟩ => ?_
  cases r with
  | nil => unfold bindTs at e; cases e
  | cons r1 r2 =>
    unfold bindTs at e
    obtain ⟨e1, h1, e⟩ := Option.bind_eq_some_iff.mp e
    exact ⟨_, _, rfl, F, s, _, e1, I, r1, h1, fun σ1 I1 o1 f1 => ⟨F, _, _, e', I1, r2, e, fun σ2 I2 o2 f2 => k σ2 I2 (fun a z => o1 a (o2 a z)) fun j hj => by
      simp only [tSlotss, List.mem_append, not_or] at hj
      rw [f2 j hj.2, f1 j hj.1]⟩⟩
theorem g_tup {es : List Expr} {kk : Nat} {pos : Pos} {Ts : List Tg} {n k : Nat} (o : XO g k X) (h : PGs X es (tGs g Ts)) (hn : (assignEach es X.env).length = n := by rfl) (hst : (assignEach es X.env).findIdx? (·.1) = none := by rfl) (hT : Ts.length = n := by rfl) :
    PG X (.Tuple es kk pos) (tG g (.tp Ts)) := by
  refine PG.imp (PG.or (pg_tup o.calm h hn hst) (pg_unl o.calm h hn hst)) fun v σ H Q ⟨F, s, d, e', I, r, e, k⟩ => ?_
  cases d with
  | tup ds =>
    unfold bindT at e
    obtain ⟨a, xs, rfl, q, r⟩ := Pk.tup I.sub (.inl r)
    exact .inl ⟨a, xs, rfl, by rw [o.K]; exact q, by rw [r.length, ← bindTs_len e, hT], F, s, ds, e', I, r, e, k⟩
  | lst ds =>
    unfold bindT at e
    obtain ⟨a, xs, rfl, q, r⟩ := Pk.lst I.sub (.inl r)
    exact .inr ⟨a, xs, rfl, SqL.of q, by rw [r.length, ← bindTs_len e, hT], F, s, ds, e', I, r, e, k⟩
  | _ => cases e
theorem Keep.bind {F F0 : Hp} {s s0 : S g.R.S} {σ σ0 σ' : St} {H H0 : Hp} {e' : List (Option Cell)} (K : Keep g F0 s0 σ0 H0 F s σ H) (ow : ∀ a, Own σ' e' a → Own σ s.e a) : Keep g F0 s0 σ0 H0 F { s with e := e' } σ' H := ⟨K.heap, K.grow, K.nof, fun a z => K.own a (ow a z), K.there⟩
end
end RW
namespace RW
open PySem L2
section
variable {g : G} {X : Cx}
def Ul (X : Cx) (P : Hp → Prop) (H : Hp) : Prop := P H ∨ ∃ d od u, H d = some (.frz od u) ∧ (∀ o' u', X.H_0 d ≠ some (.frz o' u')) ∧ P (upd H d u)
def unE (X : Cx) (E : Ends) : Ends := ⟨fun σ H => Ul X (E.nx σ) H, fun v H => Ul X (E.rt v) H, fun σ H => Ul X (E.bk σ) H, fun σ H => Ul X (E.ct σ) H⟩
theorem Ul.inv {pins : List (Addr × Obj)} {σ : St} {H : Hp} {s : Shared} {P : Hp → Prop} (I : Inv X pins σ H s) (h : Ul X P H) : ∃ H', Inv X pins σ H' s ∧ P H' := by
  rcases h with h | ⟨d, od, u, e, n, h⟩
  · exact ⟨H, I, h⟩
  · exact ⟨_, I.unlock e n, h⟩
theorem ps_un {st : Stmt} {t : TS} (h : PS X st t) : PS X st (fun E σ H => t (unE X E) σ H) := by
  refine ⟨fun pins s σ H E I hw => thn (h.run pins s σ H _ I hw) fun f s1 q => ?_⟩
  cases f with
  | next => obtain ⟨σ', H', I2, q⟩ := q; obtain ⟨H2, I3, q⟩ := Ul.inv I2 q; exact ⟨σ', H2, I3, q⟩
  | brk => obtain ⟨σ', H', I2, q⟩ := q; obtain ⟨H2, I3, q⟩ := Ul.inv I2 q; exact ⟨σ', H2, I3, q⟩
  | cont => obtain ⟨σ', H', I2, q⟩ := q; obtain ⟨H2, I3, q⟩ := Ul.inv I2 q; exact ⟨σ', H2, I3, q⟩
  | ret v => obtain ⟨x, σ', H', I2, r, q⟩ := q; obtain ⟨H2, I3, q⟩ := Ul.inv I2 q; exact ⟨x, σ', H2, I3, r, q⟩
theorem pe_un' {e : Expr} {t : TE} (h : PE X e t) : PE X e (fun σ H Q => t σ H fun v H' => Ul X (Q v) H') := by
  refine ⟨fun pins s σ H Q I hw => thn (h.run pins s σ H _ I hw) fun v s1 ⟨x, H1, I2, r, q⟩ => ?_⟩
  obtain ⟨H2, I3, q⟩ := Ul.inv I2 q
  exact ⟨x, H2, I3, r, q⟩
structure IterOk (g : G) (F1 H1 : Hp) (J : It) (ds : List D) : Prop where
  go : ∀ F2 H2, Le F1 F2 → Sub F2 H2 → (∀ a u o, F1 a = some u → H1 a = some o → H2 a = some o) → ∀ (i : Nat) (d : D), ds[i]? = some d → J.go i H2 ∧ ∀ x H3, J.yld i H2 x H3 → ∃ F3, Ext F2 H2 F3 H3 ∧ Rep g F3 x d
  stop : ∀ F2 H2, Le F1 F2 → Sub F2 H2 → (∀ a u o, F1 a = some u → H1 a = some o → H2 a = some o) → J.stop ds.length H2
def Locked (X : Cx) (F1 H1 HL : Hp) : Prop := HL = H1 ∨ ∃ d u od, F1 d = some u ∧ IsDict u ∧ H1 d = some u ∧ HL = upd H1 d (.frz od u) ∧ ∀ o' u', X.H_0 d ≠ some (.frz o' u')
def tI (g : G) (X : Cx) (mi : M g.R.S (List D)) : TI := fun σ H R => ∃ F s ds s', Sim g F s σ H ∧ mi s = some (ds, s') ∧
  ∀ F1 H1 HL J, Sim g F1 s' σ H1 → Keep g F s σ H F1 s' σ H1 → Locked X F1 H1 HL → IterOk g F1 HL J ds → R J HL
def DI (g : G) (X : Cx) (tg iter : Expr) (mi : M g.R.S (List D)) : Prop := PI X tg iter (tI g X mi)
theorem PI.imp {tg iter : Expr} {t t' : TI} (h : PI X tg iter t) (w : ∀ σ H R, t' σ H R → t σ H R) : PI X tg iter t' := ⟨fun pins s σ H R I q => h.run pins s σ H R I (w _ _ _ q)⟩
theorem PI.or {tg iter : Expr} {t t' : TI} (h : PI X tg iter t) (h' : PI X tg iter t') : PI X tg iter (fun σ H R => t σ H R ∨ t' σ H R) := ⟨fun pins s σ H R I q => q.elim (h.run pins s σ H R I) (h'.run pins s σ H R I)⟩
theorem Sim.lock {F H HL : Hp} {s : S g.R.S} {σ : St} (I : Sim g F s σ H) (l : Locked X F H HL) : Sim g F s σ HL := by
  rcases l with rfl | ⟨d, u, od, h1, h2, h3, rfl, _⟩
  · exact I
  · have nf : ¬ g.R.foot d := fun z => by rw [I.foot d z] at h1; cases h1
    refine ⟨fun a o e => ?_, g.R.stay I.at_ fun a ha => upd_ne (fun (z : a = d) => nf (by rw [← z]; exact ha)), I.foot, I.len, fun i c e => ?_, I.apart⟩
    · by_cases z : a = d
      · subst z
        rw [h1] at e; cases e
        exact .inr ⟨h2, od, upd_same⟩
      · rw [upd_ne z]; exact I.sub a o e
    · obtain ⟨v, e1, q⟩ := I.cell i c e
      refine ⟨v, e1, ?_⟩
      rcases q with ⟨a, b⟩ | ⟨a, p, o, b1, b2, b3, b4, b5⟩
      · exact .inl ⟨a, b⟩
      · refine .inr ⟨a, p, o, b1, b2, b3, ?_, b5⟩
        rw [upd_ne (fun z => by rw [z, h1] at b2; cases b2)]; exact b4
theorem Sim.unlock {F F1 F' H H1 HL H' : Hp} {s s1 s' : S g.R.S} {σ σ1 σ' : St} {P : Hp → Prop} (I1 : Sim g F1 s1 σ1 H1) (K1 : Keep g F s σ H F1 s1 σ1 H1) (l : Locked X F1 H1 HL) (I : Sim g F' s' σ' H') (K : Keep g F1 s1 σ1 HL F' s' σ' H')
    (o : ∀ H2, (∀ a x, F' a = none → H' a = some x → H2 a = some x) → Sim g F' s' σ' H2 → Keep g F s σ H F' s' σ' H2 → P H2) : Ul X P H' := by
  rcases l with rfl | ⟨d, u, od, h1, h2, h3, rfl, h5⟩
  · exact .inl (o H' (fun _ _ _ h => h) I (K1.trans K I))
  · have nf : ¬ g.R.foot d := fun z => by rw [I1.foot d z] at h1; cases h1
    have no : ¬ Own σ1 s1.e d := fun z => by rw [(I1.own_at z).1] at h1; cases h1
    have hd : H' d = some (.frz od u) := K.heap d _ upd_same no nf
    have f' : F' d = some u := K.grow _ _ h1
    refine .inr ⟨d, od, u, hd, h5, ?_⟩
    have I2 : Sim g F' s' σ' (upd H' d u) := by
      refine ⟨fun a x e => ?_, g.R.stay I.at_ fun a ha => upd_ne (fun (z : a = d) => nf (by rw [← z]; exact ha)), I.foot, I.len, fun i c e => ?_, I.apart⟩
      · by_cases z : a = d
        · subst z
          rw [f'] at e; cases e
          exact .inl upd_same
        · rw [upd_ne z]; exact I.sub a x e
      · obtain ⟨v, e1, q⟩ := I.cell i c e
        refine ⟨v, e1, ?_⟩
        rcases q with ⟨a, b⟩ | ⟨a, p, o, b1, b2, b3, b4, b5⟩
        · exact .inl ⟨a, b⟩
        · refine .inr ⟨a, p, o, b1, b2, b3, ?_, b5⟩
          rw [upd_ne (fun z => by rw [z, f'] at b2; cases b2)]; exact b4
    have K2 : Keep g F1 s1 σ1 H1 F' s' σ' (upd H' d u) := by
      refine ⟨fun a x e n nf' => ?_, K.grow, fun a x e nt r n => ?_, fun a z => ?_, fun a x e => ?_⟩
      · by_cases z : a = d
        · subst z; rw [h3] at e; cases e; exact upd_same
        · rw [upd_ne z]; exact K.heap a x (by rw [upd_ne z]; exact e) n nf'
      · have z : a ≠ d := fun z => by rw [z, h1] at r; cases r
        exact K.nof a x (by rw [upd_ne z]; exact e) nt r n
      · rcases K.own a z with z | z
        · exact .inl z
        · by_cases y : a = d
          · subst y; rw [upd_same] at z; cases z
          · rw [upd_ne y] at z; exact .inr z
      · by_cases z : a = d
        · subst z; exact ⟨_, upd_same⟩
        · rw [upd_ne z]; exact K.there a x (by rw [upd_ne z]; exact e)
    exact o _ (fun a x n e => by rw [upd_ne (fun z => by rw [z, f'] at n; cases n)]; exact e) I2 (K1.trans K2 I2)
def forL {R : Type} (T : Tg) (mb : MS R) : List D → MS R
  | [] => fun s => some (.nx, s)
  | d :: ds => fun s => (bindT T d s.e).bind fun e' => (mb { s with e := e' }).bind fun p => match p.1 with
    | .nx => forL T mb ds p.2
    | .ct => forL T mb ds p.2
    | .bk => some (.nx, p.2)
    | .rt v => some (.rt v, p.2)
def mFor {R : Type} (mi : M R (List D)) (T : Tg) (mb : MS R) : MS R := fun s => (mi s).bind fun p => forL T mb p.1 p.2
theorem Keep.pres {F1 F2 H1 H2 : Hp} {s1 s2 : S g.R.S} {σ1 σ2 : St} (I1 : Sim g F1 s1 σ1 H1) (K : Keep g F1 s1 σ1 H1 F2 s2 σ2 H2) : ∀ a u o, F1 a = some u → H1 a = some o → H2 a = some o := fun a u o e1 e2 =>
  K.heap a o e2 (fun z => by rw [(I1.own_at z).1] at e1; cases e1) (fun z => by rw [I1.foot a z] at e1; cases e1)
theorem XOk.heap {F : Hp} {σ0 : St} {e0 : List (Option Cell)} {H0 H H2 : Hp} {res : Vr} {v : V} (h : XOk g F σ0 e0 H0 H res v) (k : ∀ a x, F a = none → H a = some x → H2 a = some x) : XOk g F σ0 e0 H0 H2 res v := by
  cases res with
  | sh d => exact h
  | sl i => exact h
  | tmp d =>
    obtain ⟨p, o, r1, r2, r3, r4, r5, r6⟩ := h
    exact ⟨p, o, r1, r2, r3, r4, k _ _ r3 r5, r6⟩
theorem XOk.lock {F F1 H1 HL H : Hp} {σ0 : St} {e0 : List (Option Cell)} {res : Vr} {v : V} (l : Locked X F1 H1 HL) (h : XOk g F σ0 e0 HL H res v) : XOk g F σ0 e0 H1 H res v := by
  cases res with
  | sh d => exact h
  | sl i => exact h
  | tmp d =>
    obtain ⟨p, o, r1, r2, r⟩ := h
    refine ⟨p, o, r1, ?_, r⟩
    rcases r2 with r2 | r2
    · exact .inl r2
    · right
      rcases l with rfl | ⟨d, u, od, h1, h2, h3, rfl, _⟩
      · exact r2
      · by_cases z : p = d
        · subst z; rw [upd_same] at r2; cases r2
        · rw [upd_ne z] at r2; exact r2
theorem s_for {tg iter : Expr} {body : List Stmt} {mi : M g.R.S (List D)} {T : Tg} {mb : MS g.R.S} {pos : Pos} (hp : PassesOwn (model X.prog X.w) X.A X.env X.xe) (hc : X.calm = true) (hi : DI g X tg iter mi) (hg : PG X tg (tG g T)) (hb : DB g X body mb)
    (hs : ∀ x, foldedSetIterable iter X.env x = pure x := by intro _; rfl) : DS g X (.For tg iter body [] pos) (mFor mi T mb) := by
  refine PS.imp (ps_un (ps_for hp hc hi hg hb hs)) fun E σ H ⟨F, s, fl, sf, I, e, o⟩ => ?_
  unfold mFor at e
  obtain ⟨⟨ds, s1⟩, e1, e⟩ := Option.bind_eq_some_iff.mp e
  refine ⟨F, s, ds, s1, I, e1, fun F1 H1 HL J I1 K1 l it => ?_⟩
  have IL := I1.lock l
  have endN : ∀ {F' : Hp} {s' : S g.R.S} {σ' : St} {H' : Hp}, fl = .nx → sf = s' → Sim g F' s' σ' H' → Keep g F1 s1 σ HL F' s' σ' H' → (unE X E).nx σ' H' := fun {F' s' σ' H'} h1 h2 I' K' => by
    subst h1; subst h2
    exact Sim.unlock I1 K1 l I' K' fun H2 _ I2 K2 => o F' σ' H2 I2 K2
  refine ⟨fun i m σ' H' => m = ds.length - i ∧ i ≤ ds.length ∧ ∃ F' s', Sim g F' s' σ' H' ∧ Keep g F1 s1 σ HL F' s' σ' H' ∧ forL T mb (ds.drop i) s' = some (fl, sf), ⟨_, rfl, Nat.zero_le _, F1, s1, IL, Keep.refl, by simpa using e⟩, ?_⟩
  rintro i m σ2 H2 ⟨rfl, hi, F2, s2, I2, K2, e2⟩
  have pr := Keep.pres IL K2
  by_cases hlt : i < ds.length
  · have hd : ds[i]? = some ds[i] := List.getElem?_eq_getElem hlt
    obtain ⟨go, yl⟩ := it.go F2 H2 K2.grow I2.sub pr i _ hd
    rw [List.drop_eq_getElem_cons hlt] at e2
    unfold forL at e2
    obtain ⟨e', e3, e2⟩ := Option.bind_eq_some_iff.mp e2
    obtain ⟨⟨f, s3⟩, e4, e2⟩ := Option.bind_eq_some_iff.mp e2
    refine .inr ⟨go, fun σ' H' => ∃ F' s', (f = .nx ∨ f = .ct) ∧ s3 = s' ∧ Sim g F' s' σ' H' ∧ Keep g F1 s1 σ HL F' s' σ' H', fun σ' H' ⟨F', s', hf, hs, I', K'⟩ => ?_, fun x H3 hy => ?_⟩
    · refine ⟨ds.length - (i + 1), by omega, rfl, hlt, F', s', I', K', ?_⟩
      subst hs
      rcases hf with rfl | rfl <;> exact e2
    · obtain ⟨F3, x3, r3⟩ := yl x H3 hy
      have I3 := I2.ext x3
      have K3 := K2.trans (Keep.ext x3) I3
      refine ⟨F3, s2, _, e', I3, r3, e3, fun σ4 I4 ow _ => ⟨F3, _, f, s3, I4, e4, ?_⟩⟩
      have K4 := K3.bind ow
      cases f with
      | nx => exact fun F' σ' H' I' K' => ⟨F', s3, .inl rfl, rfl, I', K4.trans K' I'⟩
      | ct => exact fun F' σ' H' I' K' => ⟨F', s3, .inr rfl, rfl, I', K4.trans K' I'⟩
      | bk =>
        have e2 : some (Fl.nx, s3) = some (fl, sf) := e2
        cases e2
        exact fun F' σ' H' I' K' => endN rfl rfl I' (K4.trans K' I')
      | rt res =>
        have e2 : some (Fl.rt res, s3) = some (fl, sf) := e2
        cases e2
        intro F' σ' v H' I' K' w
        have K5 := K4.trans K' I'
        have w' := XOk.lock l (XOk.base K4 w)
        exact Sim.unlock I1 K1 l I' K5 fun H2 hk I2 K2 => o F' σ' v H2 I2 K2 ((w'.heap hk).base K1)
  · have e' : i = ds.length := by omega
    subst e'
    rw [List.drop_length] at e2
    cases e2
    exact .inl ⟨it.stop F2 H2 K2.grow I2.sub pr, endN rfl rfl I2 K2⟩
end
end RW
namespace RW
open PySem L2
section
variable {g : G} {X : Cx}
def whL {R : Type} (mc : M R Vr) (mb : MS R) : Nat → MS R
  | 0 => fun _ => none
  | n + 1 => fun s => (mc s).bind fun p => match p.1 with
    | .sh (.bl true) => (mb p.2).bind fun q => (match q.1 with
      | .nx => whL mc mb n q.2
      | .ct => whL mc mb n q.2
      | .bk => some (.nx, q.2)
      | .rt v => some (.rt v, q.2))
    | .sh (.bl false) => some (.nx, p.2)
    | _ => none
@[irreducible] def wfuel : Nat := 1000000
def mWhile {R : Type} (mc : M R Vr) (mb : MS R) : MS R := whL mc mb wfuel
theorem RepAll.get {F : Hp} : ∀ {xs : List V} {ds : List D} {i : Nat} {d : D}, RepAll g F xs ds → ds[i]? = some d → ∃ x, xs[i]? = some x ∧ Rep g F x d
  | _, _, _, _, .nil, e => by cases e
  | _, _, 0, _, .cons h _, e => by cases e; exact ⟨_, rfl, h⟩
  | _, _, i + 1, _, .cons _ t, e => by
    obtain ⟨x, h1, h2⟩ := RepAll.get (i := i) t (by simpa using e)
    exact ⟨x, by simpa using h1, h2⟩
theorem Sub.at_ {F H : Hp} (h : Sub F H) {a : Addr} {o : HO} (e : F a = some o) (n : ¬ IsDict o) : H a = some o := by
  rcases h a o e with z | ⟨z, _⟩
  · exact z
  · exact (n z).elim
theorem nd_lst {xs : List V} : ¬ IsDict (.lst xs) := fun z => by rcases z with ⟨_, z⟩ | ⟨_, z⟩ | ⟨_, _, _, z⟩ <;> cases z
theorem nd_tup {xs : List V} : ¬ IsDict (.tup xs) := fun z => by rcases z with ⟨_, z⟩ | ⟨_, z⟩ | ⟨_, _, _, z⟩ <;> cases z
def TupIn (g : G) (F : Hp) (a : Addr) (xs : List V) : Prop := F a = some (.tup xs) ∨ KTup g.K a xs
theorem TupIn.sq {F H : Hp} {a : Addr} {xs : List V} (h : TupIn g F a xs) (s : Sub F H) : SqT g.K H a xs := by
  rcases h with h | h
  · exact SqT.of (s.at_ h nd_tup)
  · exact .inr h
theorem TupIn.mono {F F' : Hp} {a : Addr} {xs : List V} (h : TupIn g F a xs) (le : Le F F') : TupIn g F' a xs := h.elim (fun h => .inl (le _ _ h)) .inr
theorem Rep.tupIn {F : Hp} {v : V} {ds : List D} (h : Rep g F v (.tup ds)) : ∃ a xs, v = .ref a ∧ TupIn g F a xs ∧ RepAll g F xs ds := by
  cases h with
  | ref _ q => cases q
  | tup e q => exact ⟨_, _, rfl, .inl e, q⟩
  | kt e q _ => exact ⟨_, _, rfl, .inr e, q⟩
theorem Rep.lstIn {F : Hp} {v : V} {ds : List D} (h : Rep g F v (.lst ds)) : ∃ a xs, v = .ref a ∧ F a = some (.lst xs) ∧ RepAll g F xs ds := by
  cases h with
  | ref e q => cases q with
    | lst q => exact ⟨_, _, rfl, e, q⟩
theorem Rep.dKIn {F : Hp} {v : V} {es : List (D × D)} (h : Rep g F v (.dct false es)) : ∃ a kvs, v = .ref a ∧ F a = some (.dK kvs) ∧ RepK g F kvs es := by
  cases h with
  | ref e q => cases q with
    | dK q => exact ⟨_, _, rfl, e, q⟩
theorem Rep.dTIn {F : Hp} {v : V} {es : List (D × D)} (h : Rep g F v (.dct true es)) : ∃ a kvs, v = .ref a ∧ F a = some (.dT kvs) ∧ RepT g F kvs es := by
  cases h with
  | ref e q => cases q with
    | dT q => exact ⟨_, _, rfl, e, q⟩
theorem it_list {F H : Hp} {a : Addr} {xs : List V} {ds : List D} (e : F a = some (.lst xs)) (r : RepAll g F xs ds) : IterOk g F H (Itl g.K a) ds := by
  refine ⟨fun F2 H2 le s _ i d hd => ?_, fun F2 H2 le s _ => ⟨xs, SqL.of (s.at_ (le _ _ e) nd_lst), by rw [r.length]; exact Nat.le_refl _⟩⟩
  have h2 : H2 a = some (.lst xs) := s.at_ (le _ _ e) nd_lst
  obtain ⟨x, h3, h4⟩ := r.get hd
  refine ⟨⟨xs, x, SqL.of h2, h3⟩, fun y H3 ⟨eq, hy⟩ => ?_⟩
  subst eq
  have := hy xs (SqL.of h2)
  rw [h3] at this; cases this
  exact ⟨F2, Ext.refl s, h4.mono le⟩
theorem it_scr {F H : Hp} {a : Addr} {ns : List Int} (e : ∀ F2 H2, Le F F2 → Sub F2 H2 → SqL g.K H2 a (ns.map V.int)) : IterOk g F H (Itl g.K a) (ns.map .int) := by
  refine ⟨fun F2 H2 le s _ i d hd => ?_, fun F2 H2 le s _ => ⟨ns.map V.int, e F2 H2 le s, by simp⟩⟩
  have h2 := e F2 H2 le s
  rw [List.getElem?_map] at hd
  obtain ⟨n, hn, rfl⟩ := Option.map_eq_some_iff.mp hd
  have h3 : (ns.map V.int)[i]? = some (.int n) := by rw [List.getElem?_map, hn]; rfl
  refine ⟨⟨ns.map V.int, .int n, h2, h3⟩, fun y H3 ⟨eq, hy⟩ => ?_⟩
  subst eq
  have := hy _ h2
  rw [h3] at this; cases this
  exact ⟨F2, Ext.refl s, .int n⟩
theorem Rep.scrIn {F : Hp} {v : V} {ns : List Int} (h : Rep g F v (.scr ns)) : ∃ a, v = .ref a ∧ ∀ F2 H2, Le F F2 → Sub F2 H2 → SqL g.K H2 a (ns.map V.int) := by
  cases h with
  | kscr q => exact ⟨_, rfl, fun _ H2 _ _ => q H2⟩
  | ref e q =>
    cases q with
    | scr =>
      refine ⟨_, rfl, fun F2 H2 le s => ?_⟩
      rcases s _ _ (le _ _ e) with z | ⟨z, _⟩
      · exact .inl (.inr ⟨_, z⟩)
      · rcases z with ⟨_, z⟩ | ⟨_, z⟩ | ⟨_, _, _, z⟩ <;> cases z
theorem it_tup {F H : Hp} {a : Addr} {xs : List V} {ds : List D} (e : TupIn g F a xs) (r : RepAll g F xs ds) : IterOk g F H (Itt g.K a) ds := by
  refine ⟨fun F2 H2 le s _ i d hd => ?_, fun F2 H2 le s _ => ⟨xs, (e.mono le).sq s, by rw [r.length]; exact Nat.le_refl _⟩⟩
  have h2 := (e.mono le).sq s
  obtain ⟨x, h3, h4⟩ := r.get hd
  refine ⟨⟨xs, x, h2, h3⟩, fun y H3 ⟨eq, hy⟩ => ?_⟩
  subst eq
  have := hy xs h2
  rw [h3] at this; cases this
  exact ⟨F2, Ext.refl s, h4.mono le⟩
theorem RepK.get {F : Hp} : ∀ {kvs : List (Key × V)} {es : List (D × D)} {i : Nat} {p : D × D}, RepK g F kvs es → es[i]? = some p → ∃ k v, kvs[i]? = some (k, v) ∧ p.1 = keyD k ∧ Rep g F v p.2
  | _, _, _, _, .nil, e => by cases e
  | _, _, 0, _, .cons h _, e => by cases e; exact ⟨_, _, rfl, rfl, h⟩
  | _, _, i + 1, _, .cons _ t, e => by
    obtain ⟨k, x, h1, h2⟩ := RepK.get (i := i) t (by simpa using e)
    exact ⟨k, x, by simpa using h1, h2⟩
theorem RepK.length {F : Hp} : ∀ {kvs : List (Key × V)} {es : List (D × D)}, RepK g F kvs es → kvs.length = es.length
  | _, _, .nil => rfl
  | _, _, .cons _ t => by simp [RepK.length t]
theorem RepT.get {F : Hp} : ∀ {kvs : List (List Key × V)} {es : List (D × D)} {i : Nat} {p : D × D}, RepT g F kvs es → es[i]? = some p → ∃ k v, kvs[i]? = some (k, v) ∧ p.1 = .tup (k.map keyD) ∧ Rep g F v p.2
  | _, _, _, _, .nil, e => by cases e
  | _, _, 0, _, .cons h _, e => by cases e; exact ⟨_, _, rfl, rfl, h⟩
  | _, _, i + 1, _, .cons _ t, e => by
    obtain ⟨k, x, h1, h2⟩ := RepT.get (i := i) t (by simpa using e)
    exact ⟨k, x, by simpa using h1, h2⟩
theorem RepT.length {F : Hp} : ∀ {kvs : List (List Key × V)} {es : List (D × D)}, RepT g F kvs es → kvs.length = es.length
  | _, _, .nil => rfl
  | _, _, .cons _ t => by simp [RepT.length t]
theorem rep_key {F : Hp} : ∀ k : Key, Rep g F (kV k) (keyD k)
  | .inl _ => .int _
  | .inr _ => .str _
theorem rep_keys {F : Hp} : ∀ ks : List Key, RepAll g F (ks.map kV) (ks.map keyD)
  | [] => .nil
  | k :: ks => .cons (rep_key k) (rep_keys ks)
theorem Ext.keepTup {F H : Hp} (s : Sub F H) {q : Addr} {xs : List V} (e : H q = some (.tup xs)) : ∃ F', Ext F H F' H ∧ F' q = some (.tup xs) := by
  cases h : F q with
  | some o =>
    refine ⟨F, Ext.refl s, ?_⟩
    rcases s q o h with z | ⟨z, ob, y⟩
    · rw [e] at z; cases z; exact h
    · rw [e] at y; cases y
  | none =>
    refine ⟨upd F q (.tup xs), ⟨upd_le h, fun _ _ h => h, fun a o h1 nt h2 => ?_, fun a o h1 => ?_⟩, upd_same⟩
    · rw [upd_ne (fun z => by rw [z, e] at h1; cases h1; exact nt _ rfl)]; exact h2
    · by_cases z : a = q
      · subst z; rw [upd_same] at h1; cases h1; exact .inl e
      · rw [upd_ne z] at h1; exact s a o h1
theorem it_keys {F H : Hp} {a : Addr} {od : Obj} {kvs : List (Key × V)} {es : List (D × D)} (e : F a = some (.dK kvs)) (hl : H a = some (.frz od (.dK kvs))) (r : RepK g F kvs es) : IterOk g F H (Itk a od kvs) (es.map (·.1)) := by
  refine ⟨fun F2 H2 le s pr i d hd => ?_, fun F2 H2 le s pr => ⟨pr _ _ _ e hl, by rw [r.length, List.length_map]; exact Nat.le_refl _⟩⟩
  rw [List.getElem?_map] at hd
  obtain ⟨p, hp, rfl⟩ := Option.map_eq_some_iff.mp hd
  obtain ⟨k, v, h1, h2, h3⟩ := r.get hp
  refine ⟨⟨pr _ _ _ e hl, (List.getElem?_eq_some_iff.mp h1).1⟩, fun y H3 ⟨eq, k', v', h4, h5⟩ => ?_⟩
  subst eq
  rw [h1] at h4; cases h4
  refine ⟨F2, Ext.refl s, ?_⟩
  rw [h5, h2]
  exact rep_key k
theorem it_keysT {F H : Hp} {a : Addr} {od : Obj} {kvs : List (List Key × V)} {es : List (D × D)} (e : F a = some (.dT kvs)) (hl : H a = some (.frz od (.dT kvs))) (r : RepT g F kvs es) : IterOk g F H (Itkt a od kvs) (es.map (·.1)) := by
  refine ⟨fun F2 H2 le s pr i d hd => ?_, fun F2 H2 le s pr => ⟨pr _ _ _ e hl, by rw [r.length, List.length_map]; exact Nat.le_refl _⟩⟩
  rw [List.getElem?_map] at hd
  obtain ⟨p, hp, rfl⟩ := Option.map_eq_some_iff.mp hd
  obtain ⟨k, v, h1, h2, h3⟩ := r.get hp
  refine ⟨⟨pr _ _ _ e hl, (List.getElem?_eq_some_iff.mp h1).1⟩, fun y H3 ⟨eq, k', v', q, h4, h5, h6⟩ => ?_⟩
  subst eq
  rw [h1] at h4; cases h4
  obtain ⟨F3, x3, h7⟩ := Ext.keepTup s h6
  refine ⟨F3, x3, ?_⟩
  rw [h5, h2]
  exact .tup h7 (rep_keys k)
theorem it_str {F H : Hp} {x : Str} : IterOk g F H (Its x) (x.cps.toList.map fun c => .str ⟨#[c]⟩) := by
  refine ⟨fun F2 H2 le s pr i d hd => ?_, fun F2 H2 le s pr => by simp [Its]⟩
  rw [List.getElem?_map] at hd
  obtain ⟨c, hc, rfl⟩ := Option.map_eq_some_iff.mp hd
  have hi : i < x.cps.size := by
    have := (List.getElem?_eq_some_iff.mp hc).1
    simpa using this
  refine ⟨hi, fun y H3 ⟨eq, c', h1, h2⟩ => ?_⟩
  subst eq
  refine ⟨F2, Ext.refl s, ?_⟩
  have : some c = some c' := by rw [← hc, ← h1]; simp
  cases this
  rw [h2]
  exact .str _
theorem it_range {F H : Hp} {lo : Int} {n : Nat} : IterOk g F H (Itr lo n) ((List.range n).map fun (i : Nat) => D.int (lo + i)) := by
  refine ⟨fun F2 H2 le s pr i d hd => ?_, fun F2 H2 le s pr => by simp [Itr]⟩
  rw [List.getElem?_map] at hd
  obtain ⟨j, hj, rfl⟩ := Option.map_eq_some_iff.mp hd
  have hi : i < n := by
    have := (List.getElem?_eq_some_iff.mp hj).1
    simpa using this
  have hji : j = i := by
    rw [List.getElem?_range hi] at hj
    exact (Option.some.inj hj).symm
  subst hji
  refine ⟨hi, fun y H3 ⟨eq, h1⟩ => ?_⟩
  subst eq
  refine ⟨F2, Ext.refl s, ?_⟩
  rw [h1]
  exact .int _
theorem pe_lk {e : Expr} {t : TE} (h : PE X e t) : PE X e (fun σ H Q => t σ H fun v H1 => Q v H1 ∨ ∃ d u, H1 d = some u ∧ Mut (some u) ∧ ∀ od, (∀ o' u', X.H_0 d ≠ some (.frz o' u')) → Q v (upd H1 d (.frz od u))) := by
  refine ⟨fun pins s σ H Q I hw => thn (h.run pins s σ H _ I hw) fun v s1 ⟨x, H1, I2, r, q⟩ => ?_⟩
  rcases q with q | ⟨d, u, hd, mu, q⟩
  · exact ⟨x, H1, I2, r, q⟩
  · obtain ⟨od, I3⟩ := I2.lock hd mu
    exact ⟨x, _, I3, r, q od (I2.nofrz hd mu)⟩
def mIt {R : Type} (f : D → Option (List D)) (ma : M R Vr) : M R (List D) := fun s => (ma s).bind fun p => (esc (soft p.1) p.2).bind fun q => (f q.1).map fun ds => (ds, q.2)
theorem mIt_inv {f : D → Option (List D)} {ma : M g.R.S Vr} {s s' : S g.R.S} {ds : List D} (e : mIt f ma s = some (ds, s')) : ∃ r s1 d, ma s = some (r, s1) ∧ esc (soft r) s1 = some (d, s') ∧ f d = some ds := by
  unfold mIt at e
  obtain ⟨p, e1, e⟩ := Option.bind_eq_some_iff.mp e
  obtain ⟨q, e2, e⟩ := Option.bind_eq_some_iff.mp e
  obtain ⟨z, e3, e⟩ := Option.map_eq_some_iff.mp e
  cases e
  exact ⟨p.1, p.2, q.1, e1, e2, e3⟩
theorem tM_esc {ma : M g.R.S Vr} {σ : St} {H : Hp} {Q : VK} {F : Hp} {s s1 s' : S g.R.S} {r : Vr} {d : D} (I : Sim g F s σ H) (e1 : ma s = some (r, s1)) (e2 : esc (soft r) s1 = some (d, s'))
    (k : ∀ F' v H', Sim g F' s' σ H' → Keep g F s σ H F' s' σ H' → Rep g F' v d → Q v H') : tM g ma σ H Q := by
  refine tM_soft I e1 fun F1 v H1 I1 K1 w => ?_
  obtain ⟨F2, I2, K2, r2⟩ := esc_ok I1 w e2
  exact k F2 v H1 I2 (K1.trans K2 I2) r2
def itemsOf : D → Option (List D)
  | .lst ds => some ds
  | .tup ds => some ds
  | .str x => some (x.cps.toList.map fun c => .str ⟨#[c]⟩)
  | .dct _ es => some (es.map (·.1))
  | .scr ns => some (ns.map .int)
  | _ => none
theorem i_any {tg e : Expr} {ma : M g.R.S Vr} {k : Nat} (o : XO g k X) (he : DE g X e ma) : DI g X tg e (mIt itemsOf ma) := by
  refine PI.imp (PI.or (PI.or (pi_list he) (pi_tup he)) (PI.or (pi_str he) (pi_keys (pe_lk he)))) fun σ H R ⟨F, s, ds, s', I, e, k⟩ => ?_
  obtain ⟨r, s1, d, e1, e2, e3⟩ := mIt_inv e
  cases d with
  | lst xs =>
    cases e3
    refine .inl (.inl (tM_esc I e1 e2 fun F1 v H1 I1 K1 r1 => ?_))
    obtain ⟨a, vs, rfl, h1, h2⟩ := r1.lstIn
    refine ⟨a, rfl, ⟨vs, SqL.of (I1.sub.at_ h1 nd_lst)⟩, ?_⟩
    rw [o.K]
    exact k F1 H1 H1 _ I1 K1 (.inl rfl) (it_list h1 h2)
  | scr ns =>
    cases e3
    refine .inl (.inl (tM_esc I e1 e2 fun F1 v H1 I1 K1 r1 => ?_))
    obtain ⟨a, rfl, h1⟩ := r1.scrIn
    refine ⟨a, rfl, ⟨_, by rw [o.K]; exact h1 F1 H1 (Le.refl _) I1.sub⟩, ?_⟩
    rw [o.K]
    exact k F1 H1 H1 _ I1 K1 (.inl rfl) (it_scr h1)
  | tup xs =>
    cases e3
    refine .inl (.inr (tM_esc I e1 e2 fun F1 v H1 I1 K1 r1 => ?_))
    obtain ⟨a, vs, rfl, h1, h2⟩ := r1.tupIn
    refine ⟨a, rfl, ⟨vs, by rw [o.K]; exact h1.sq I1.sub⟩, ?_⟩
    rw [o.K]
    exact k F1 H1 H1 _ I1 K1 (.inl rfl) (it_tup h1 h2)
  | str x =>
    cases e3
    refine .inr (.inl (tM_esc I e1 e2 fun F1 v H1 I1 K1 r1 => ?_))
    obtain rfl := Pk.str (H := H1) (.inl r1)
    exact ⟨x, rfl, k F1 H1 H1 _ I1 K1 (.inl rfl) it_str⟩
  | dct t es =>
    cases e3
    refine .inr (.inr (tM_esc I e1 e2 fun F1 v H1 I1 K1 r1 => ?_))
    cases t with
    | false =>
      obtain ⟨a, kvs, rfl, h1, h2⟩ := r1.dKIn
      rcases I1.sub a _ h1 with z | ⟨_, ob, z⟩
      · refine .inr ⟨a, _, z, trivial, fun od hn => ⟨a, od, rfl, .inl ⟨kvs, upd_same, ?_⟩⟩⟩
        exact k F1 H1 _ _ I1 K1 (.inr ⟨a, _, od, h1, .inl ⟨_, rfl⟩, z, rfl, hn⟩) (it_keys h1 upd_same h2)
      · exact .inl ⟨a, ob, rfl, .inl ⟨kvs, z, k F1 H1 H1 _ I1 K1 (.inl rfl) (it_keys h1 z h2)⟩⟩
    | true =>
      obtain ⟨a, kvs, rfl, h1, h2⟩ := r1.dTIn
      rcases I1.sub a _ h1 with z | ⟨_, ob, z⟩
      · refine .inr ⟨a, _, z, trivial, fun od hn => ⟨a, od, rfl, .inr ⟨kvs, upd_same, ?_⟩⟩⟩
        exact k F1 H1 _ _ I1 K1 (.inr ⟨a, _, od, h1, .inr (.inl ⟨_, rfl⟩), z, rfl, hn⟩) (it_keysT h1 upd_same h2)
      · exact .inl ⟨a, ob, rfl, .inr ⟨kvs, z, k F1 H1 H1 _ I1 K1 (.inl rfl) (it_keysT h1 z h2)⟩⟩
  | _ => cases e3
def rangeOf (n : Nat) (lo : Int) : List D := (List.range n).map fun (i : Nat) => D.int (lo + i)
def mRng1 {R : Type} (ma : M R Vr) : M R (List D) := fun s => (ma s).bind fun p => match p.1 with
  | .sh (.int j) => if j.natAbs ≤ 16777216 then some (rangeOf j.toNat 0, p.2) else none
  | _ => none
theorem i_range1 {tg a : Expr} {ma : M g.R.S Vr} {p pos : Pos} (hg : Gl X "range") (hm : X.mg "range" = none) (ha : DE g X a ma) (hs : starEach [a] X.env = [(false, eval a X.env)] := by rfl) (hs' : starEach [a] X.env = (false, eval a X.env) :: starEach [] X.env := by rfl) : DI g X tg (.Call (.Name "range" p) [a] [] pos) (mRng1 ma) := by
  refine PI.imp (pi_range1 hg hm (pa_cons ha pa_nil hs') hs) fun σ H R ⟨F, s, ds, s', I, e, k⟩ => ?_
  unfold mRng1 at e
  obtain ⟨⟨r, s1⟩, e1, e⟩ := Option.bind_eq_some_iff.mp e
  cases r with
  | sh d => cases d with
    | int j =>
      replace e : (if j.natAbs ≤ 16777216 then some (rangeOf j.toNat 0, s1) else none) = some (ds, s') := e
      by_cases hb : j.natAbs ≤ 16777216
      · rw [if_pos hb] at e
        cases e
        refine ⟨F, s, _, _, I, e1, fun F' v H' I' K' r => ?_⟩
        obtain rfl := Pk.int (H := H') (.inl r)
        exact ⟨j, rfl, by omega, by omega, k F' H' H' _ I' K' (.inl rfl) it_range⟩
      · rw [if_neg hb] at e; cases e
    | _ => cases e
  | _ => cases e
def mRng2 {R : Type} (ma mb : M R Vr) : M R (List D) := fun s => (ma s).bind fun p => (mb p.2).bind fun q => match p.1, q.1 with
  | .sh (.int i), .sh (.int j) => if i.natAbs ≤ 16777216 ∧ j.natAbs ≤ 16777216 then some (rangeOf (j - i).toNat i, q.2) else none
  | _, _ => none
def enumOf (ds : List D) : List D := ds.zipIdx.map fun p => .tup [.int (p.2 : Nat), p.1]
def zipOf (ds es : List D) : List D := (ds.zip es).map fun p => .tup [p.1, p.2]
def enumI : D → Option (List D)
  | .lst ds => some (enumOf ds)
  | _ => none
theorem it_enum {F H : Hp} {a : Addr} {xs : List V} {ds : List D} (e : F a = some (.lst xs)) (r : RepAll g F xs ds) : IterOk g F H (Ite g.K a) (enumOf ds) := by
  refine ⟨fun F2 H2 le s _ i d hd => ?_, fun F2 H2 le s _ => ⟨xs, SqL.of (s.at_ (le _ _ e) nd_lst), by simp [enumOf, r.length]⟩⟩
  have h2 : H2 a = some (.lst xs) := s.at_ (le _ _ e) nd_lst
  unfold enumOf at hd
  rw [List.getElem?_map, List.getElem?_zipIdx] at hd
  obtain ⟨q, hq, rfl⟩ := Option.map_eq_some_iff.mp hd
  obtain ⟨d', hd', rfl⟩ := Option.map_eq_some_iff.mp hq
  obtain ⟨x, h3, h4⟩ := r.get hd'
  refine ⟨⟨xs, x, SqL.of h2, h3⟩, fun y H3 ⟨T, x', h5, h6, h7, h8⟩ => ?_⟩
  have := h8 xs (SqL.of h2)
  rw [h3] at this; cases this
  subst h7
  have x : Ext F2 H2 (upd F2 T (.tup [.int (i : Nat), x])) (upd H2 T (.tup [.int (i : Nat), x])) := Ext.new s h6
  refine ⟨_, x, ?_⟩
  rw [h5]
  refine .tup upd_same (.cons ?_ (.cons (h4.mono (le.trans x.le)) .nil))
  simp only [Nat.zero_add]
  exact .int _
theorem i_enum {e : Expr} {ma : M g.R.S Vr} {p pos tpos : Pos} {elts : List Expr} {kk : Nat} {k : Nat} (o : XO g k X) (hg : Gl X "enumerate") (hm : X.mg "enumerate" = none) (he : DE g X e ma) (hs : starEach [e] X.env = [(false, eval e X.env)] := by rfl) (hs' : starEach [e] X.env = (false, eval e X.env) :: starEach [] X.env := by rfl) :
    DI g X (.Tuple elts kk tpos) (.Call (.Name "enumerate" p) [e] [] pos) (mIt enumI ma) := by
  refine PI.imp (pi_enum hg hm (pa_cons he pa_nil hs') hs) fun σ H R ⟨F, s, ds, s', I, e, k⟩ => ?_
  obtain ⟨r, s1, d, e1, e2, e3⟩ := mIt_inv e
  cases d with
  | lst xs =>
    cases e3
    refine tM_esc I e1 e2 fun F1 v H1 I1 K1 r1 => ?_
    obtain ⟨a, vs, rfl, h1, h2⟩ := r1.lstIn
    refine ⟨a, vs, rfl, SqL.of (I1.sub.at_ h1 nd_lst), ?_⟩
    rw [o.K]
    exact k F1 H1 H1 _ I1 K1 (.inl rfl) (it_enum h1 h2)
  | _ => cases e3
end
end RW
namespace RW
open PySem L2
def wipeE (e : List (Option Cell)) : List Nat → List (Option Cell)
  | [] => e
  | v :: vs => (wipeE e vs).set v none
def backE (e0 e : List (Option Cell)) : List Nat → List (Option Cell)
  | [] => e
  | v :: vs => (backE e0 e vs).set v ((e0[v]?).getD none)
def plainAt (e : List (Option Cell)) (vs : List Nat) : Bool := vs.all fun v => match e[v]? with
  | some (some c) => !c.own
  | _ => true
theorem wipeE_length (e : List (Option Cell)) : ∀ vs : List Nat, (wipeE e vs).length = e.length
  | [] => rfl
  | v :: vs => by unfold wipeE; rw [List.length_set, wipeE_length e vs]
theorem backE_length (e0 e : List (Option Cell)) : ∀ vs : List Nat, (backE e0 e vs).length = e.length
  | [] => rfl
  | v :: vs => by unfold backE; rw [List.length_set, backE_length e0 e vs]
theorem wipeE_some {e : List (Option Cell)} {i : Nat} {x : Cell} : ∀ {vs : List Nat}, (wipeE e vs)[i]? = some (some x) → e[i]? = some (some x) ∧ i ∉ vs
  | [], h => ⟨h, by simp⟩
  | v :: vs, h => by
    unfold wipeE at h
    by_cases hi : v = i
    · subst hi
      by_cases hv : v < (wipeE e vs).length
      · rw [List.getElem?_set_self hv] at h; cases h
      · rw [List.getElem?_eq_none (by simpa using hv)] at h; cases h
    · rw [List.getElem?_set_ne hi] at h
      obtain ⟨h1, h2⟩ := wipeE_some h
      exact ⟨h1, by simp only [List.mem_cons, not_or]; exact ⟨fun e => hi e.symm, h2⟩⟩
theorem wipe_out {σ : L2.St} {j : Nat} : ∀ {vs : List Nat}, j ∉ vs → (wipe σ vs)[j]? = σ[j]?
  | [], _ => rfl
  | v :: vs, h => by
    simp only [List.mem_cons, not_or] at h
    unfold wipe
    rw [List.getElem?_set_ne (Ne.symm h.1)]
    exact wipe_out h.2
theorem wipe_in {σ : L2.St} {j : Nat} : ∀ {vs : List Nat}, j ∈ vs → j < σ.length → (wipe σ vs)[j]? = some none
  | v :: vs, h, hl => by
    unfold wipe
    by_cases hj : v = j
    · subst hj
      exact List.getElem?_set_self (by rw [wipe_length]; exact hl)
    · rw [List.getElem?_set_ne hj]
      rcases List.mem_cons.mp h with z | z
      · exact (hj z.symm).elim
      · exact wipe_in z hl
theorem wipe_same {σ σ2 : L2.St} {vs : List Nat} (hl : σ2.length = σ.length) (h : ∀ j, j ∉ vs → σ2[j]? = σ[j]?) : wipe σ2 vs = wipe σ vs := by
  refine List.ext_getElem? fun j => ?_
  by_cases hj : j ∈ vs
  · by_cases hlt : j < σ.length
    · rw [wipe_in hj hlt, wipe_in hj (by rw [hl]; exact hlt)]
    · rw [List.getElem?_eq_none (by rw [wipe_length, hl]; omega), List.getElem?_eq_none (by rw [wipe_length]; omega)]
  · rw [wipe_out hj, wipe_out hj, h j hj]
theorem backE_out {e0 e : List (Option Cell)} {j : Nat} : ∀ {vs : List Nat}, j ∉ vs → (backE e0 e vs)[j]? = e[j]?
  | [], _ => rfl
  | v :: vs, h => by
    simp only [List.mem_cons, not_or] at h
    unfold backE
    rw [List.getElem?_set_ne (Ne.symm h.1)]
    exact backE_out h.2
theorem backE_in {e0 e : List (Option Cell)} {j : Nat} {c : Cell} : ∀ {vs : List Nat}, j ∈ vs → (backE e0 e vs)[j]? = some (some c) → e0[j]? = some (some c)
  | v :: vs, h, hc => by
    unfold backE at hc
    by_cases hj : v = j
    · subst hj
      have hlt : v < (backE e0 e vs).length := by
        have := (List.getElem?_eq_some_iff.mp hc).1
        simpa using this
      rw [List.getElem?_set_self hlt] at hc
      cases q : e0[v]? with
      | none => rw [q] at hc; cases hc
      | some x => rw [q] at hc; cases hc; rfl
    · rw [List.getElem?_set_ne hj] at hc
      rcases List.mem_cons.mp h with z | z
      · exact (hj z.symm).elim
      · exact backE_in z hc
theorem plain_of {e : List (Option Cell)} {vs : List Nat} (h : plainAt e vs = true) {j : Nat} {c : Cell} (hj : j ∈ vs) (hc : e[j]? = some (some c)) : c.own = false := by
  unfold plainAt at h
  have := List.all_eq_true.mp h j hj
  rw [hc] at this
  simpa using this
mutual
theorem bindT_len : ∀ {T : Tg} {d : D} {e e' : List (Option Cell)}, bindT T d e = some e' → e'.length = e.length
  | .nm i, d, e, e', h => by unfold bindT at h; cases h; simp
  | .tp ts, .tup ds, e, e', h => by unfold bindT at h; exact bindTs_len' h
  | .tp ts, .lst ds, e, e', h => by unfold bindT at h; exact bindTs_len' h
  | .tp ts, .non, _, _, h => by unfold bindT at h; cases h
  | .tp ts, .bl _, _, _, h => by unfold bindT at h; cases h
  | .tp ts, .int _, _, _, h => by unfold bindT at h; cases h
  | .tp ts, .str _, _, _, h => by unfold bindT at h; cases h
  | .tp ts, .dct _ _, _, _, h => by unfold bindT at h; cases h
  | .tp ts, .obj _ _, _, _, h => by unfold bindT at h; cases h
  | .tp ts, .res, _, _, h => by unfold bindT at h; cases h
  | .tp ts, .scr _, _, _, h => by unfold bindT at h; cases h
theorem bindTs_len' : ∀ {Ts : List Tg} {ds : List D} {e e' : List (Option Cell)}, bindTs Ts ds e = some e' → e'.length = e.length
  | [], [], e, e', h => by unfold bindTs at h; cases h; rfl
  | t :: ts, d :: ds, e, e', h => by
    unfold bindTs at h
    obtain ⟨e1, h1, h⟩ := Option.bind_eq_some_iff.mp h
    rw [bindTs_len' h, bindT_len h1]
  | [], _ :: _, _, _, h => by unfold bindTs at h; cases h
  | _ :: _, [], _, _, h => by unfold bindTs at h; cases h
end
section
variable {g : G} {X : Cx}
def lcL {R : Type} (vs : List Nat) (T : Tg) (mt me : M R Vr) : List D → List D → M R (List D)
  | [], acc => fun s => some (acc, s)
  | d :: ds, acc => fun s => if plainAt s.e vs then (bindT T d (wipeE s.e vs)).bind fun e' => (mt { s with e := e' }).bind fun p => match p.1 with
    | .sh (.bl true) => (me p.2).bind fun q => (esc (soft q.1) q.2).bind fun z => if acc.length < sizeLine then lcL vs T mt me ds (acc ++ [z.1]) { z.2 with e := backE s.e z.2.e vs } else none
    | .sh (.bl false) => lcL vs T mt me ds acc { p.2 with e := backE s.e p.2.e vs }
    | _ => none
    else none
def mLc {R : Type} (vs : List Nat) (mi : M R (List D)) (T : Tg) (mt me : M R Vr) : M R Vr := fun s => (mi s).bind fun p => (lcL vs T mt me p.1 [] p.2).map fun q => (.tmp (.lst q.1), q.2)
theorem Locked.free {F1 H1 HL : Hp} (l : Locked X F1 H1 HL) {a : Addr} (h : HL a = none) : H1 a = none := by
  rcases l with rfl | ⟨d, u, od, h1, h2, h3, rfl, _⟩
  · exact h
  · by_cases z : a = d
    · subst z; rw [upd_same] at h; cases h
    · rw [upd_ne z] at h; exact h
theorem Sim.wipe {F H : Hp} {s : S g.R.S} {σ : St} (I : Sim g F s σ H) (vs : List Nat) : Sim g F { s with e := wipeE s.e vs } (L2.wipe σ vs) H := by
  refine ⟨I.sub, I.at_, I.foot, by show (wipeE s.e vs).length = _; rw [wipeE_length, wipe_length]; exact I.len, fun i c e => ?_, fun i j ci cj a hne ei ej oi oj hi => ?_⟩
  · obtain ⟨h1, h2⟩ := wipeE_some e
    rw [wipe_out h2]
    exact I.cell i c h1
  · obtain ⟨h1, h2⟩ := wipeE_some ei
    obtain ⟨h3, h4⟩ := wipeE_some ej
    rw [wipe_out h2] at hi
    rw [wipe_out h4]
    exact I.apart i j ci cj a hne h1 h3 oi oj hi
theorem Own.wipe {e : List (Option Cell)} {σ : St} {vs : List Nat} {a : Addr} (h : Own (L2.wipe σ vs) (wipeE e vs) a) : Own σ e a := by
  obtain ⟨i, c, h1, h2, h3⟩ := h
  obtain ⟨h4, h5⟩ := wipeE_some h1
  rw [wipe_out h5] at h3
  exact ⟨i, c, h4, h2, h3⟩
theorem Sim.back {F0 F H0 H : Hp} {s0 s : S g.R.S} {σ σ2 : St} {vs : List Nat} (I0 : Sim g F0 s0 σ H0) (pl : plainAt s0.e vs = true) (le : Le F0 F) (I : Sim g F s σ2 H) (hl : σ2.length = σ.length) (fr : ∀ j, j ∉ vs → σ2[j]? = σ[j]?) : Sim g F { s with e := backE s0.e s.e vs } σ H := by
  have out : ∀ {j : Nat} {c : Cell}, (backE s0.e s.e vs)[j]? = some (some c) → c.own = true → j ∉ vs ∧ s.e[j]? = some (some c) := fun {j c} e ho => by
    by_cases hj : j ∈ vs
    · have := plain_of pl hj (backE_in hj e)
      rw [ho] at this; cases this
    · rw [backE_out hj] at e; exact ⟨hj, e⟩
  refine ⟨I.sub, I.at_, I.foot, by show (backE s0.e s.e vs).length = _; rw [backE_length, ← hl]; exact I.len, fun i c e => ?_, fun i j ci cj a hne ei ej oi oj hi => ?_⟩
  · replace e : (backE s0.e s.e vs)[i]? = some (some c) := e
    by_cases hi : i ∈ vs
    · have e0 := backE_in hi e
      have ho := plain_of pl hi e0
      obtain ⟨v, h1, h2⟩ := I0.cell i c e0
      refine ⟨v, h1, ?_⟩
      rcases h2 with ⟨_, h2⟩ | ⟨h2, _⟩
      · exact .inl ⟨ho, h2.mono le⟩
      · rw [ho] at h2; cases h2
    · rw [backE_out hi] at e
      rw [← fr i hi]
      exact I.cell i c e
  · obtain ⟨h1, h2⟩ := out ei oi
    obtain ⟨h3, h4⟩ := out ej oj
    rw [← fr i h1] at hi
    rw [← fr j h3]
    exact I.apart i j ci cj a hne h2 h4 oi oj hi
theorem Own.back {e0 e : List (Option Cell)} {σ σ2 : St} {vs : List Nat} {a : Addr} (pl : plainAt e0 vs = true) (fr : ∀ j, j ∉ vs → σ2[j]? = σ[j]?) (h : Own σ (backE e0 e vs) a) : Own σ2 e a := by
  obtain ⟨i, c, h1, h2, h3⟩ := h
  by_cases hi : i ∈ vs
  · have := plain_of pl hi (backE_in hi h1)
    rw [h2] at this; cases this
  · rw [backE_out hi] at h1
    rw [← fr i hi] at h3
    exact ⟨i, c, h1, h2, h3⟩
structure Mk0 (g : G) (F : Hp) (e : List (Option Cell)) (σ : St) (H : Hp) (p : Addr) (av : List V) : Prop where
  at_ : H p = some (.lst av)
  nf : F p = none
  no : ¬ Own σ e p
theorem Mk0.keep {F F' H H' : Hp} {s s' : S g.R.S} {σ σ' : St} {p : Addr} {av : List V} (m : Mk0 g F s.e σ H p av) (ft : ¬ g.R.foot p) (K : Keep g F s σ H F' s' σ' H') : Mk0 g F' s'.e σ' H' p av :=
  ⟨K.heap _ _ m.at_ m.no ft, K.nof _ _ m.at_ (fun _ z => nomatch z) m.nf m.no, fun z => by
    rcases K.own p z with z | z
    · exact m.no z
    · rw [m.at_] at z; cases z⟩
theorem Sim.grow {F H : Hp} {s : S g.R.S} {σ : St} {p : Addr} {o : HO} (I : Sim g F s σ H) (nf : F p = none) (no : ¬ Own σ s.e p) (ft : ¬ g.R.foot p) : Sim g F s σ (upd H p o) := by
  refine ⟨fun a u e => ?_, g.R.stay I.at_ fun a ha => upd_ne (fun (z : a = p) => ft (by rw [← z]; exact ha)), I.foot, I.len, fun i c e => ?_, I.apart⟩
  · rw [upd_ne (fun z => by rw [z, nf] at e; cases e)]; exact I.sub a u e
  · obtain ⟨v, h1, h2⟩ := I.cell i c e
    refine ⟨v, h1, ?_⟩
    rcases h2 with h2 | ⟨h2, q, x, r1, r2, r3, r4, r5⟩
    · exact .inl h2
    · refine .inr ⟨h2, q, x, r1, r2, r3, ?_, r5⟩
      rw [upd_ne (fun z => no ⟨i, c, e, h2, by rw [h1, r1, z]⟩)]; exact r4
theorem Keep.grow' {F0 F H0 H : Hp} {s0 s : S g.R.S} {σ0 σ : St} {p : Addr} {o : HO} (K : Keep g F0 s0 σ0 H0 F s σ H) (h0 : H0 p = none) : Keep g F0 s0 σ0 H0 F s σ (upd H p o) :=
  ⟨fun a u e n nf => by rw [upd_ne (ne_of_none e h0)]; exact K.heap a u e n nf, K.grow, K.nof, K.own, fun a u e => by rw [upd_ne (ne_of_none e h0)]; exact K.there a u e⟩
theorem RepAll.append {F : Hp} : ∀ {xs : List V} {ds : List D} {y : V} {d : D}, RepAll g F xs ds → Rep g F y d → RepAll g F (xs ++ [y]) (ds ++ [d])
  | _, _, _, _, .nil, h => .cons h .nil
  | _, _, _, _, .cons a b, h => .cons a (RepAll.append b h)
theorem tLc_of {vs : List Nat} {mi : M g.R.S (List D)} {T : Tg} {mt me : M g.R.S Vr} {σ : St} {H : Hp} {Q : VK} (hT : ∀ j ∈ tSlots T, j ∈ vs) (h : tM g (mLc vs mi T mt me) σ H Q) : tLc (tI g X mi) (tG g T) (tMB g mt) (tM g me) vs σ H (fun v H' => Ul X (Q v) H') := by
  obtain ⟨F, s, res, sf0, I, e, k⟩ := h
  unfold mLc at e
  obtain ⟨⟨ds, s1⟩, e1, e⟩ := Option.bind_eq_some_iff.mp e
  obtain ⟨⟨qf, sf⟩, e2, e⟩ := Option.map_eq_some_iff.mp e
  cases e
  refine ⟨F, s, ds, s1, I, e1, fun F1 H1 HL J I1 K1 l it p hp => ?_⟩
  have IL := I1.lock l
  have ft : ¬ g.R.foot p := IL.nofoot hp
  have x0 : Ext F1 HL F1 (upd HL p (.lst [])) := Ext.tmp IL.sub hp
  have no0 : ¬ Own σ s1.e p := fun z => by
    obtain ⟨o, e, _⟩ := (IL.own_at z).2.2
    rw [hp] at e; cases e
  refine ⟨fun i m H' => m = ds.length - i ∧ i ≤ ds.length ∧ ∃ F' s' av ad, Sim g F' s' σ H' ∧ Keep g F1 s1 σ HL F' s' σ H' ∧ Mk0 g F' s'.e σ H' p av ∧ RepAll g F' av ad ∧ lcL vs T mt me (ds.drop i) ad s' = some (qf, sf),
    ⟨_, rfl, Nat.zero_le _, F1, s1, [], [], IL.ext x0, Keep.ext x0, ⟨upd_same, IL.sub.free hp, no0⟩, .nil, by simpa using e2⟩, ?_⟩
  rintro i m H2 ⟨rfl, hi, F2, s2, av, ad, I2, K2, m2, r2, e2⟩
  have pr := Keep.pres IL K2
  by_cases hlt : i < ds.length
  · have hd : ds[i]? = some ds[i] := List.getElem?_eq_getElem hlt
    obtain ⟨go, yl⟩ := it.go F2 H2 K2.grow I2.sub pr i _ hd
    rw [List.drop_eq_getElem_cons hlt] at e2
    unfold lcL at e2
    cases pl : plainAt s2.e vs with
    | false => rw [pl] at e2; cases e2
    | true =>
    rw [pl, if_pos rfl] at e2
    obtain ⟨e', e3, e2⟩ := Option.bind_eq_some_iff.mp e2
    obtain ⟨⟨rt, s3⟩, e4, e2⟩ := Option.bind_eq_some_iff.mp e2
    refine .inr ⟨go, fun H' => ∃ F' s' av' ad', Sim g F' s' σ H' ∧ Keep g F1 s1 σ HL F' s' σ H' ∧ Mk0 g F' s'.e σ H' p av' ∧ RepAll g F' av' ad' ∧ lcL vs T mt me (ds.drop (i + 1)) ad' s' = some (qf, sf), fun H' ⟨F', s', av', ad', q⟩ => ⟨ds.length - (i + 1), by omega, rfl, hlt, F', s', av', ad', q⟩, fun x H3 hy => ?_⟩
    obtain ⟨F3, x3, r3⟩ := yl x H3 hy
    have I3 := I2.ext x3
    have K3 := K2.trans (Keep.ext x3) I3
    have m3 : Mk0 g F3 s2.e σ H3 p av := m2.keep ft (Keep.ext x3)
    have I3w := I3.wipe vs
    refine ⟨F3, _, _, e', I3w, r3, e3, fun σ4 I4 ow fr => ?_⟩
    have hlen : σ4.length = σ.length := by
      have h1 : e'.length = σ4.length := I4.len
      rw [← h1, bindT_len e3, wipeE_length, I3.len]
    have fr' : ∀ j, j ∉ vs → σ4[j]? = σ[j]? := fun j hj => by rw [fr j fun z => hj (hT j z), wipe_out hj]
    have m4 : Mk0 g F3 e' σ4 H3 p av := ⟨m3.at_, m3.nf, fun z => m3.no (ow p z).wipe⟩
    refine ⟨wipe_same hlen fr', ?_⟩
    have kb : ∀ {F5 H5 : Hp} {s5 : S g.R.S}, Keep g F3 { s2 with e := e' } σ4 H3 F5 s5 σ4 H5 → Sim g F5 s5 σ4 H5 → Sim g F5 { s5 with e := backE s2.e s5.e vs } σ H5 ∧ Keep g F3 s2 σ H3 F5 { s5 with e := backE s2.e s5.e vs } σ H5 := fun {F5 H5 s5} K5 I5 => by
      have I6 := Sim.back (vs := vs) I3 pl K5.grow I5 hlen fr'
      refine ⟨I6, ⟨fun a u e n nf => K5.heap a u e (fun z => n (ow a z).wipe) nf, K5.grow, fun a u e nt q n => K5.nof a u e nt q fun z => n (ow a z).wipe, fun a z => ?_, K5.there⟩⟩
      rcases K5.own a (z.back pl fr') with z | z
      · exact .inl (ow a z).wipe
      · exact .inr z
    cases rt with
    | tmp _ => cases e2
    | sl _ => cases e2
    | sh dt => cases dt with
      | bl b =>
        refine ⟨F3, _, b, s3, I4, e4, fun F5 H5 I5 K5 => ?_⟩
        obtain ⟨I6, K6⟩ := kb K5 I5
        cases b with
        | false =>
          refine iteF ⟨F5, _, av, ad, I6, K3.trans K6 I6, ?_, r2.mono (x3.le.trans K5.grow), e2⟩
          exact Mk0.keep (s' := { s3 with e := backE s2.e s3.e vs }) m3 ft K6
        | true =>
          refine iteT ?_
          obtain ⟨⟨r5, s5⟩, e5, e2⟩ := Option.bind_eq_some_iff.mp e2
          obtain ⟨⟨d6, s6⟩, e6, e2⟩ := Option.bind_eq_some_iff.mp e2
          by_cases hsz : ad.length < sizeLine
          · replace e2 : (if ad.length < sizeLine then lcL vs T mt me (ds.drop (i + 1)) (ad ++ [d6]) { s6 with e := backE s2.e s6.e vs } else none) = some (qf, sf) := e2
            rw [if_pos hsz] at e2
            refine tM_esc I5 e5 e6 fun F7 y H7 I7 K7 r7 => ?_
            have K57 := K5.trans K7 I7
            obtain ⟨I8, K8⟩ := kb K57 I7
            have K38 := K3.trans K8 I8
            have m8 : Mk0 g F7 (backE s2.e s6.e vs) σ H7 p av := Mk0.keep (s' := { s6 with e := backE s2.e s6.e vs }) m3 ft K8
            have r8 : RepAll g F7 av ad := r2.mono (x3.le.trans K57.grow)
            refine ⟨av, m8.at_, by rw [r8.length]; exact hsz, F7, _, av ++ [y], ad ++ [d6], I8.grow m8.nf m8.no ft, K38.grow' hp, ⟨upd_same, m8.nf, m8.no⟩, ?_, e2⟩
            exact r8.append r7
          · replace e2 : (if ad.length < sizeLine then lcL vs T mt me (ds.drop (i + 1)) (ad ++ [d6]) { s6 with e := backE s2.e s6.e vs } else none) = some (qf, sf) := e2
            rw [if_neg hsz] at e2; cases e2
      | _ => cases e2
  · have e' : i = ds.length := by omega
    subst e'
    rw [List.drop_length] at e2
    cases e2
    refine .inl ⟨it.stop F2 H2 K2.grow I2.sub pr, Sim.unlock I1 K1 l I2 K2 fun H' hk I' K' => k F2 _ H' I' K' ⟨p, .lst av, rfl, ?_, m2.nf, ft, m2.no, hk _ _ m2.nf m2.at_, .lst r2⟩⟩
    cases q : H p with
    | none => rfl
    | some u =>
      obtain ⟨o', z⟩ := K1.there p u q
      rw [l.free hp] at z; cases z
end
end RW
namespace RW
open PySem L2
mutual
def keq : D → D → Bool
  | .int i, .int j => decide (i = j)
  | .str x, .str y => decide (x = y)
  | .tup a, .tup b => keqs a b
  | _, _ => false
def keqs : List D → List D → Bool
  | [], [] => true
  | a :: as, b :: bs => keq a b && keqs as bs
  | _, _ => false
end
def getE (es : List (D × D)) (k : D) : Option D := (es.find? fun p => keq p.1 k).map (·.2)
def putE (es : List (D × D)) (k v : D) : List (D × D) := if (es.any fun p => keq p.1 k) = true then es.map (fun p => if keq p.1 k = true then (p.1, v) else p) else es ++ [(k, v)]
def kOf : D → Option Key
  | .int i => some (.inl i)
  | .str x => some (.inr x)
  | _ => none
theorem kOf_some {d : D} {k : Key} (h : kOf d = some k) : d = keyD k := by
  cases d <;> cases h <;> rfl
theorem keq_key (a b : Key) : keq (keyD a) (keyD b) = decide (a = b) := by
  cases a <;> cases b <;> simp [keyD, keq]
theorem keqs_keys : ∀ a b : List Key, keqs (a.map keyD) (b.map keyD) = decide (a = b)
  | [], [] => by simp [keqs]
  | [], _ :: _ => by simp [keqs]
  | _ :: _, [] => by simp [keqs]
  | a :: as, b :: bs => by
    simp only [List.map_cons, keqs, keq_key, keqs_keys as bs, List.cons.injEq, Bool.decide_and]
theorem keq_tup (a b : List Key) : keq (.tup (a.map keyD)) (.tup (b.map keyD)) = decide (a = b) := by
  unfold keq
  exact keqs_keys a b
section
variable {g : G} {X : Cx}
theorem RepK.val {F : Hp} (k : Key) : ∀ {kvs : List (Key × V)} {es : List (D × D)}, RepK g F kvs es → (∀ d, getE es (keyD k) = some d → ∃ v, valV kvs k = some v ∧ Rep g F v d) ∧ (getE es (keyD k) = none → valV kvs k = none)
  | _, _, .nil => ⟨fun _ h => (nomatch h), fun _ => rfl⟩
  | _, _, .cons (k := k') (v := v) (d := d) h t => by
    obtain ⟨h1, h2⟩ := RepK.val k t
    by_cases e : k' = k
    · subst e
      have e1 : ∀ {r : List (D × D)}, getE ((keyD k', d) :: r) (keyD k') = some d := fun {r} => by simp [getE, List.find?_cons, keq_key]
      rw [e1, valV_pos (p := (k', v)) rfl]
      exact ⟨fun d' h' => by cases h'; exact ⟨v, rfl, h⟩, fun h' => by cases h'⟩
    · have e1 : ∀ {r : List (D × D)}, getE ((keyD k', d) :: r) (keyD k) = getE r (keyD k) := fun {r} => by simp [getE, List.find?_cons, keq_key, e]
      rw [e1, valV_neg (p := (k', v)) e]
      exact ⟨h1, h2⟩
theorem RepT.val {F : Hp} (k : List Key) : ∀ {kvs : List (List Key × V)} {es : List (D × D)}, RepT g F kvs es → (∀ d, getE es (.tup (k.map keyD)) = some d → ∃ v, valV kvs k = some v ∧ Rep g F v d) ∧ (getE es (.tup (k.map keyD)) = none → valV kvs k = none)
  | _, _, .nil => ⟨fun _ h => (nomatch h), fun _ => rfl⟩
  | _, _, .cons (k := k') (v := v) (d := d) h t => by
    obtain ⟨h1, h2⟩ := RepT.val k t
    by_cases e : k' = k
    · subst e
      have e1 : ∀ {r : List (D × D)}, getE ((.tup (k'.map keyD), d) :: r) (.tup (k'.map keyD)) = some d := fun {r} => by simp [getE, List.find?_cons, keq_tup]
      rw [e1, valV_pos (p := (k', v)) rfl]
      exact ⟨fun d' h' => by cases h'; exact ⟨v, rfl, h⟩, fun h' => by cases h'⟩
    · have e1 : ∀ {r : List (D × D)}, getE ((.tup (k'.map keyD), d) :: r) (.tup (k.map keyD)) = getE r (.tup (k.map keyD)) := fun {r} => by simp [getE, List.find?_cons, keq_tup, e]
      rw [e1, valV_neg (p := (k', v)) e]
      exact ⟨h1, h2⟩
theorem RepK.any {F : Hp} (k : Key) : ∀ {kvs : List (Key × V)} {es : List (D × D)}, RepK g F kvs es → (es.any fun p => keq p.1 (keyD k)) = kvs.any fun kv => decide (kv.1 = k)
  | _, _, .nil => rfl
  | _, _, .cons h t => by simp only [List.any_cons, keq_key, RepK.any k t]
theorem RepK.map {F : Hp} (k : Key) {v : V} {d : D} (r : Rep g F v d) : ∀ {kvs : List (Key × V)} {es : List (D × D)}, RepK g F kvs es → RepK g F (kvs.map fun kv => if kv.1 = k then (kv.1, v) else kv) (es.map fun p => if keq p.1 (keyD k) = true then (p.1, d) else p)
  | _, _, .nil => .nil
  | _, _, .cons (k := k') h t => by
    simp only [List.map_cons, keq_key, decide_eq_true_eq]
    by_cases e : k' = k
    · rw [if_pos e, if_pos e]; exact .cons r (RepK.map k r t)
    · rw [if_neg e, if_neg e]; exact .cons h (RepK.map k r t)
theorem RepK.append {F : Hp} (k : Key) {v : V} {d : D} (r : Rep g F v d) : ∀ {kvs : List (Key × V)} {es : List (D × D)}, RepK g F kvs es → RepK g F (kvs ++ [(k, v)]) (es ++ [(keyD k, d)])
  | _, _, .nil => .cons r .nil
  | _, _, .cons h t => .cons h (RepK.append k r t)
theorem RepK.put {F : Hp} (k : Key) {v : V} {d : D} (r : Rep g F v d) {kvs : List (Key × V)} {es : List (D × D)} (h : RepK g F kvs es) : RepK g F (putK kvs k v) (putE es (keyD k) d) := by
  unfold putK putE
  rw [h.any k]
  split
  · exact h.map k r
  · exact h.append k r
theorem RepT.any {F : Hp} (k : List Key) : ∀ {kvs : List (List Key × V)} {es : List (D × D)}, RepT g F kvs es → (es.any fun p => keq p.1 (.tup (k.map keyD))) = kvs.any fun kv => decide (kv.1 = k)
  | _, _, .nil => rfl
  | _, _, .cons h t => by simp only [List.any_cons, keq_tup, RepT.any k t]
theorem RepT.map {F : Hp} (k : List Key) {v : V} {d : D} (r : Rep g F v d) : ∀ {kvs : List (List Key × V)} {es : List (D × D)}, RepT g F kvs es → RepT g F (kvs.map fun kv => if kv.1 = k then (kv.1, v) else kv) (es.map fun p => if keq p.1 (.tup (k.map keyD)) = true then (p.1, d) else p)
  | _, _, .nil => .nil
  | _, _, .cons (k := k') h t => by
    simp only [List.map_cons, keq_tup, decide_eq_true_eq]
    by_cases e : k' = k
    · rw [if_pos e, if_pos e]; exact .cons r (RepT.map k r t)
    · rw [if_neg e, if_neg e]; exact .cons h (RepT.map k r t)
theorem RepT.append {F : Hp} (k : List Key) {v : V} {d : D} (r : Rep g F v d) : ∀ {kvs : List (List Key × V)} {es : List (D × D)}, RepT g F kvs es → RepT g F (kvs ++ [(k, v)]) (es ++ [(.tup (k.map keyD), d)])
  | _, _, .nil => .cons r .nil
  | _, _, .cons h t => .cons h (RepT.append k r t)
theorem RepT.put {F : Hp} (k : List Key) {v : V} {d : D} (r : Rep g F v d) {kvs : List (List Key × V)} {es : List (D × D)} (h : RepT g F kvs es) : RepT g F (putK kvs k v) (putE es (.tup (k.map keyD)) d) := by
  unfold putK putE
  rw [h.any k]
  split
  · exact h.map k r
  · exact h.append k r
def DTs (g : G) (X : Cx) (ifs : List Expr) (m : M g.R.S Vr) : Prop := PTs X ifs (tMB g m)
theorem PTs.imp {ifs : List Expr} {t t' : TT} (h : PTs X ifs t) (w : ∀ σ H Q, t' σ H Q → t σ H Q) : PTs X ifs t' := ⟨fun pins s σ H Q I q => h.run pins s σ H Q I (w _ _ _ q)⟩
theorem c_nil : DTs g X [] (mC (.bl true)) := PTs.imp pts_nil fun σ H Q ⟨F, s, b, s', I, e, k⟩ => by
  cases e
  exact k F H I Keep.refl
theorem c_one {c : Expr} {m : M g.R.S Vr} (h : DT g X c m) : DTs g X [c] m := pts_one h
theorem d_lc {elt tg iter : Expr} {ifs : List Expr} {scope : Scope} {pos : Pos} {mi : M g.R.S (List D)} {T : Tg} {mt me : M g.R.S Vr} {k : Nat} (own : List (Str × Nat)) (o : XO g k X) (hi : DI g X tg iter mi) (ok : BlkOk X.N X.env.scope scope own)
    (hg : ∀ (s : Shared) (H : Hp) (C : Addr) (cl : List (Str × Addr)) (fp : List Addr), PG (X.blk s H scope (compEnvC scope cl C X.env) fp) tg (tG g T)) (ht : ∀ (s : Shared) (H : Hp) (C : Addr) (cl : List (Str × Addr)) (fp : List Addr), DTs g (X.blk s H scope (compEnvC scope cl C X.env) fp) ifs mt)
    (he : ∀ (s : Shared) (H : Hp) (C : Addr) (cl : List (Str × Addr)) (fp : List Addr), DE g (X.blk s H scope (compEnvC scope cl C X.env) fp) elt me) (hT : ∀ j ∈ tSlots T, j ∈ own.map (·.2) := by decide) (hs : ∀ x, foldedSetIterable iter X.env x = pure x := by intro _; rfl) :
    DE g X (.ListComp elt [⟨tg, iter, ifs, 0⟩] scope pos) (mLc (own.map (·.2)) mi T mt me) :=
  PE.imp (pe_un' (pe_lc (own := own) o.calm o.nd hi ok hg ht he hs)) fun σ H Q h => tLc_of hT h
theorem s_setLc {i : Nat} {y : Str} {py : Pos} {elt tg iter : Expr} {ifs : List Expr} {scope : Scope} {pos spos : Pos} {mi : M g.R.S (List D)} {T : Tg} {mt me : M g.R.S Vr} {k : Nat} (own : List (Str × Nat)) (o : XO g k X) (hi : DI g X tg iter mi) (ok : BlkOk X.N X.env.scope scope own)
    (hg : ∀ (s : Shared) (H : Hp) (C : Addr) (cl : List (Str × Addr)) (fp : List Addr), PG (X.blk s H scope (compEnvC scope cl C X.env) fp) tg (tG g T)) (ht : ∀ (s : Shared) (H : Hp) (C : Addr) (cl : List (Str × Addr)) (fp : List Addr), DTs g (X.blk s H scope (compEnvC scope cl C X.env) fp) ifs mt)
    (he : ∀ (s : Shared) (H : Hp) (C : Addr) (cl : List (Str × Addr)) (fp : List Addr), DE g (X.blk s H scope (compEnvC scope cl C X.env) fp) elt me)
    (hsw : swapsWith (.ListComp elt [⟨tg, iter, ifs, 0⟩] scope pos) (some (.Name y py)) spos.line X.env = pure true)
    (hT : ∀ j ∈ tSlots T, j ∈ own.map (·.2) := by decide) (hs : ∀ x, foldedSetIterable iter X.env x = pure x := by intro _; rfl) (hy : X.N[i]? = some y := by rfl) (hyl : X.env.scope.names.lookup y = some .local := by rfl) :
    DS g X (.Assign [.Name y py] (.ListComp elt [⟨tg, iter, ifs, 0⟩] scope pos) spos) (mSet i (mLc (own.map (·.2)) mi T mt me)) :=
  PS.imp (ps_un (ps_setLc (own := own) o.calm o.nd hy hyl hsw hi ok hg ht he hs)) fun E σ H h => tLc_of hT (tSet_of h)
def dcL {R : Type} (vs : List Nat) (T : Tg) (mt mk mv : M R Vr) : List D → List (D × D) → M R (List (D × D))
  | [], acc => fun s => some (acc, s)
  | d :: ds, acc => fun s => if plainAt s.e vs then (bindT T d (wipeE s.e vs)).bind fun e' => (mt { s with e := e' }).bind fun p => match p.1 with
    | .sh (.bl true) => (mk p.2).bind fun q => (esc (soft q.1) q.2).bind fun z => (kOf z.1).bind fun key => (mv z.2).bind fun q2 => (esc (soft q2.1) q2.2).bind fun z2 =>
      if acc.length < sizeLine then dcL vs T mt mk mv ds (putE acc (keyD key) z2.1) { z2.2 with e := backE s.e z2.2.e vs } else none
    | .sh (.bl false) => dcL vs T mt mk mv ds acc { p.2 with e := backE s.e p.2.e vs }
    | _ => none
    else none
def mDc {R : Type} (vs : List Nat) (mi : M R (List D)) (T : Tg) (mt mk mv : M R Vr) : M R Vr := fun s => (mi s).bind fun p => (dcL vs T mt mk mv p.1 [] p.2).map fun q => (.tmp (.dct false q.1), q.2)
structure MkD (g : G) (F : Hp) (e : List (Option Cell)) (σ : St) (H : Hp) (p : Addr) (av : List (Key × V)) : Prop where
  at_ : H p = some (.dK av)
  nf : F p = none
  no : ¬ Own σ e p
theorem MkD.keep {F F' H H' : Hp} {s s' : S g.R.S} {σ σ' : St} {p : Addr} {av : List (Key × V)} (m : MkD g F s.e σ H p av) (ft : ¬ g.R.foot p) (K : Keep g F s σ H F' s' σ' H') : MkD g F' s'.e σ' H' p av :=
  ⟨K.heap _ _ m.at_ m.no ft, K.nof _ _ m.at_ (fun _ z => nomatch z) m.nf m.no, fun z => by
    rcases K.own p z with z | z
    · exact m.no z
    · rw [m.at_] at z; cases z⟩
end
end RW
namespace RW
open PySem L2
section
variable {g : G} {X : Cx}
theorem OpR.or {f : Value → Value → Sem Value} {r r' : R2} (h : OpR X f r) (h' : OpR X f r') : OpR X f (fun x y H Q => r x y H Q ∨ r' x y H Q) := fun pins s σ H x y v u Q I rx ry q => q.elim (h pins s σ H x y v u Q I rx ry) (h' pins s σ H x y v u Q I rx ry)
theorem CallR.or {f : Value} {r r' : List V → Hp → VK → Prop} (h : CallR X f r) (h' : CallR X f r') : CallR X f (fun xs H Q => r xs H Q ∨ r' xs H Q) := fun pins s σ H xs us Q I rx q => q.elim (h pins s σ H xs us Q I rx) (h' pins s σ H xs us Q I rx)
theorem PE.or {e : Expr} {t t' : TE} (h : PE X e t) (h' : PE X e t') : PE X e (fun σ H Q => t σ H Q ∨ t' σ H Q) := ⟨fun pins s σ H Q I q => q.elim (h.run pins s σ H Q I) (h'.run pins s σ H Q I)⟩
theorem Op2.of {f f' : D → D → Option Vr} {r : R2} (h : Op2 g f r) (e : ∀ x y z, f' x y = some z → f x y = some z) : Op2 g f' r := ⟨fun x y z h1 => h.no x y z (e _ _ _ h1), fun F H x y dx dy z Q s p q h1 n => h.ok F H x y dx dy z Q s p q (e _ _ _ h1) n⟩
def o2I (f : Int → Int → Option D) : D → D → Option Vr
  | .int i, .int j => (f i j).map .sh
  | _, _ => none
theorem op2_int {f : Int → Int → Option D} {r : R2} (h : ∀ i j d H Q F, f i j = some d → (∀ v, Rep g F v d → Q v H) → r (.int i) (.int j) H Q) : Op2 g (o2I f) r := by
  refine ⟨fun x y z e i => ?_, fun F H x y dx dy z Q s p q e n => ?_⟩
  · cases x <;> first | cases e | skip
    cases y <;> first | cases e | skip
    obtain ⟨d, _, rfl⟩ := Option.map_eq_some_iff.mp e
    exact fun z => nomatch z
  · cases dx <;> first | cases e | skip
    cases dy <;> first | cases e | skip
    obtain ⟨d, h1, rfl⟩ := Option.map_eq_some_iff.mp e
    obtain rfl := p.int
    obtain rfl := q.int
    exact h _ _ d H Q F h1 fun v r => n F v H (Ext.refl s) r
theorem p_sub : Op2 g (o2I fun i j => some (.int (i - j))) (rI0 fun i j => .int (i - j)) := op2_int fun i j d H Q F e n => by cases e; exact ⟨i, j, rfl, rfl, n _ (.int _)⟩
def iMul (i j : Int) : Option D := if i.natAbs < 18446744073709551616 ∨ j.natAbs < 18446744073709551616 then some (.int (i * j)) else none
def iMod (i j : Int) : Option D := if 0 < j then some (.int (i % j)) else none
theorem p_mod : Op2 g (o2I iMod) (rI (fun _ j => 0 < j) fun i j => .int (i % j)) := op2_int fun i j d H Q F e n => by
  unfold iMod at e
  split at e
  · cases e; exact ⟨i, j, rfl, rfl, by assumption, n _ (.int _)⟩
  · cases e
def iDiv (i j : Int) : Option D := if 0 < j ∧ j.natAbs < 1073741824 then some (.int (i / j)) else none
theorem p_div : Op2 g (o2I iDiv) (rI CDiv fun i j => .int (i / j)) := op2_int fun i j d H Q F e n => by
  unfold iDiv at e
  split at e
  · rename_i h
    cases e; exact ⟨i, j, rfl, rfl, ⟨h.1, by omega⟩, n _ (.int _)⟩
  · cases e
def iPow (i j : Int) : Option D := if 0 ≤ j ∧ j ≤ 1000000 ∧ i.natAbs < 2 ^ 64 then some (.int (i ^ j.toNat)) else none
theorem p_pow : Op2 g (o2I iPow) (rI CPow fun i j => .int (i ^ j.toNat)) := op2_int fun i j d H Q F e n => by
  unfold iPow at e
  split at e
  · cases e; exact ⟨i, j, rfl, rfl, by assumption, n _ (.int _)⟩
  · cases e
theorem p_ge : Op2 g (o2I fun i j => some (.bl (decide (j ≤ i)))) (rI0 fun i j => .bl (decide (j ≤ i))) := op2_int fun i j d H Q F e n => by cases e; exact ⟨i, j, rfl, rfl, n _ (.bl _)⟩
end
def toV : D → Option V
  | .non => some .non
  | .bl b => some (.bl b)
  | .int i => some (.int i)
  | .str x => some (.str x)
  | _ => none
def deqL (f : D → D → Option Bool) : List D → List D → Option Bool
  | x :: xs, y :: ys => (f x y).bind fun p => (deqL f xs ys).map fun q => p && q
  | _, _ => some true
def deqF : Nat → D → D → Option Bool
  | 0, _, _ => none
  | n + 1, d, e => match toV d, toV e with
    | some a, some b => some (eqV a b)
    | _, _ => match d, e with
      | .lst a, .lst b => if a.length = b.length then deqL (deqF n) a b else some false
      | .tup a, .tup b => (deqL (deqF n) a b).map fun r => r && decide (a.length = b.length)
      | _, _ => none
section
variable {g : G} {X : Cx}
theorem toV_pk {F H : Hp} {v : V} {d : D} {a : V} (e : toV d = some a) (p : Pk g F H v d) : v = a ∧ flatV a = true := by
  cases d <;> cases e
  · exact ⟨p.non, rfl⟩
  · exact ⟨p.bl, rfl⟩
  · exact ⟨p.int, rfl⟩
  · exact ⟨p.str, rfl⟩
theorem rc_flat {A : Around} {s : Shared} {x y : V} {u v : Value} (rx : RelV x u) (ry : RelV y v) (fx : flatV x = true) (fy : flatV y = true) : SeqAt.RcAt A s u v (eqV x y) ∧ SeqAt.RcNeAt A s u v (!eqV x y) := by
  cases x with
  | non =>
    cases rx
    cases y with
    | non => cases ry; exact ⟨.none_none, .none_none⟩
    | bl b => cases ry; exact ⟨.none_bool b, .none_bool b⟩
    | int j => obtain ⟨t, rfl⟩ := ry; exact ⟨.none_int j t, .none_int j t⟩
    | str z => obtain ⟨t, rfl⟩ := ry; exact ⟨.none_str z t, .none_str z t⟩
    | _ => cases fy
  | bl a =>
    cases rx
    cases y with
    | non => cases ry; exact ⟨.bool_none a, .bool_none a⟩
    | bl b => cases ry; exact ⟨.bool_bool a b, .bool_bool a b⟩
    | int j => obtain ⟨t, rfl⟩ := ry; exact ⟨.bool_int a j t, .bool_int a j t⟩
    | str z => obtain ⟨t, rfl⟩ := ry; exact ⟨.bool_str a z t, .bool_str a z t⟩
    | _ => cases fy
  | int i =>
    obtain ⟨t0, rfl⟩ := rx
    cases y with
    | non => cases ry; exact ⟨.int_none i t0, .int_none i t0⟩
    | bl b => cases ry; exact ⟨.int_bool i t0 b, .int_bool i t0 b⟩
    | int j => obtain ⟨t, rfl⟩ := ry; exact ⟨.int_int i t0 j t, .int_int i t0 j t⟩
    | str z => obtain ⟨t, rfl⟩ := ry; exact ⟨.int_str i t0 z t, .int_str i t0 z t⟩
    | _ => cases fy
  | str w =>
    obtain ⟨t0, rfl⟩ := rx
    cases y with
    | non => cases ry; exact ⟨.str_none w t0, .str_none w t0⟩
    | bl b => cases ry; exact ⟨.str_bool w t0 b, .str_bool w t0 b⟩
    | int j => obtain ⟨t, rfl⟩ := ry; exact ⟨.str_int w t0 j t, .str_int w t0 j t⟩
    | str z => obtain ⟨t, rfl⟩ := ry; exact ⟨.str_str w t0 z t, .str_str w t0 z t⟩
    | _ => cases fy
  | _ => cases fx
theorem eqV_refl {x : V} (h : flatV x = true) : eqV x x = true := by
  cases x <;> simp_all [eqV, flatV]
theorem deqF_inv {n : Nat} {d e : D} {b : Bool} (h : deqF (n + 1) d e = some b) : (∃ x y, toV d = some x ∧ toV e = some y ∧ b = eqV x y) ∨ (∃ ds es, d = .lst ds ∧ e = .lst es ∧ ((ds.length = es.length ∧ deqL (deqF n) ds es = some b) ∨ (ds.length ≠ es.length ∧ b = false))) ∨
    ∃ ds es r, d = .tup ds ∧ e = .tup es ∧ deqL (deqF n) ds es = some r ∧ b = (r && decide (ds.length = es.length)) := by
  unfold deqF at h
  split at h
  · rename_i x y h1 h2
    cases h
    exact .inl ⟨x, y, h1, h2, rfl⟩
  · split at h
    · rename_i ds es _
      refine .inr (.inl ⟨ds, es, rfl, rfl, ?_⟩)
      split at h
      · exact .inl ⟨by assumption, h⟩
      · cases h; exact .inr ⟨by assumption, rfl⟩
    · rename_i ds es _
      obtain ⟨r, h3, h4⟩ := Option.map_eq_some_iff.mp h
      exact .inr (.inr ⟨ds, es, r, rfl, rfl, h3, h4.symm⟩)
    · cases h
theorem deq_same {pins : List (Addr × Obj)} {σ : St} {F H : Hp} {s : Shared} (I : Inv X pins σ H s) (hS : Sub F H) (hK : X.K = g.K) : ∀ (n : Nat) (d e : D) (b : Bool) (x : V), deqF n d e = some b → Pk g F H x d → Pk g F H x e → b = true
  | 0, _, _, _, _, h, _, _ => by cases h
  | n + 1, d, e, b, x, h, p, q => by
    have go : ∀ (xs : List V) (ds es : List D) (r : Bool), RepAll g F xs ds → RepAll g F xs es → deqL (deqF n) ds es = some r → r = true := by
      intro xs
      induction xs with
      | nil =>
        intro ds es r h1 h2 h3
        cases h1
        cases h2
        cases h3; rfl
      | cons y ys ih =>
        intro ds es r h1 h2 h3
        cases h1 with
        | cons a1 a2 => cases h2 with
          | cons b1 b2 =>
            unfold deqL at h3
            obtain ⟨p1, e1, h3⟩ := Option.bind_eq_some_iff.mp h3
            obtain ⟨p2, e2, h3⟩ := Option.map_eq_some_iff.mp h3
            rw [← h3, deq_same I hS hK n _ _ _ _ e1 (.inl a1) (.inl b1), ih _ _ _ a2 b2 e2]
            rfl
    rcases deqF_inv h with ⟨a, c, h1, h2, h3⟩ | ⟨ds, es, rfl, rfl, h3⟩ | ⟨ds, es, r, rfl, rfl, h3, h4⟩
    · obtain ⟨r1, f1⟩ := toV_pk h1 p
      obtain ⟨r2, _⟩ := toV_pk h2 q
      subst r1; subst r2
      rw [h3]; exact eqV_refl f1
    · obtain ⟨a, xs, rfl, e1, r1⟩ := p.lst hS
      obtain ⟨a', ys, z, e2, r2⟩ := q.lst hS
      cases z
      rw [e1] at e2; cases e2
      rcases h3 with ⟨_, h3⟩ | ⟨h3, _⟩
      · exact go _ _ _ _ r1 r2 h3
      · exact (h3 (by rw [← r1.length, ← r2.length])).elim
    · obtain ⟨a, xs, rfl, e1, r1⟩ := p.tup hS
      obtain ⟨a', ys, z, e2, r2⟩ := q.tup hS
      cases z
      have : xs = ys := by
        rw [← hK] at e1 e2
        exact I.tuple_inj e1 e2
      subst this
      rw [h4, go _ _ _ _ r1 r2 h3, ← r1.length, ← r2.length]
      simp
theorem deqL_all {f : D → D → Option Bool} : ∀ {ds es : List D} {r : Bool}, deqL f ds es = some r → ∃ b : Nat → Bool, r = ((List.range (min ds.length es.length)).all b) ∧ ∀ (j : Nat) (d e : D), ds[j]? = some d → es[j]? = some e → f d e = some (b j)
  | [], es, r, h => by
    have : r = true := by cases es <;> (cases h; rfl)
    subst this
    exact ⟨fun _ => true, by simp, fun j d e h1 => by cases h1⟩
  | d :: ds, [], r, h => by
    cases h
    exact ⟨fun _ => true, by simp, fun j d e _ h2 => by cases h2⟩
  | d :: ds, e :: es, r, h => by
    unfold deqL at h
    obtain ⟨p, h1, h⟩ := Option.bind_eq_some_iff.mp h
    obtain ⟨q, h2, h⟩ := Option.map_eq_some_iff.mp h
    obtain ⟨b, hb, hf⟩ := deqL_all h2
    refine ⟨fun j => match j with | 0 => p | j + 1 => b j, ?_, fun j d' e' h3 h4 => ?_⟩
    · rw [← h, hb]
      simp only [List.length_cons, Nat.succ_min_succ, List.range_succ_eq_map, List.all_cons, List.all_map]
      rfl
    · cases j with
      | zero => cases h3; cases h4; exact h1
      | succ j => exact hf j d' e' (by simpa using h3) (by simpa using h4)
theorem deq_run {pins : List (Addr × Obj)} {σ : St} {F H : Hp} {s : Shared} (I : Inv X pins σ H s) (hS : Sub F H) (hK : X.K = g.K) : ∀ (n : Nat) (d e : D) (b : Bool) (x y : V) (u v : Value) (A : Around), deqF n d e = some b → Pk g F H x d → Pk g F H y e → RelV x u → RelV y v → A.units + n < cLine →
    (SeqAt.RcAt A s u v b ∧ SeqAt.RcNeAt A s u v (!b)) ∧ SeqAt.EqAt A s u v b
  | 0, _, _, _, _, _, _, _, _, h, _, _, _, _, _ => by cases h
  | n + 1, d, e, b, x, y, u, v, A, h, p, q, rx, ry, hu => by
    have same := deq_same I hS hK (n + 1) d e b
    have items : ∀ {xs ys : List V} {us vs : List Value} {ds es : List D} {c : Nat → Bool}, RepAll g F xs ds → RepAll g F ys es → Vals xs us → Vals ys vs → (∀ (j : Nat) (d e : D), ds[j]? = some d → es[j]? = some e → deqF n d e = some (c j)) → ∀ j (h1 : j < us.toArray.size) (h2 : j < vs.toArray.size), SeqAt.EqAt A.in1 s us.toArray[j] vs.toArray[j] (c j) := by
      intro xs ys us vs ds es c r1 r2 w1 w2 hc j h1 h2
      have l1 := r1.length
      have l2 := r2.length
      have m1 := w1.length
      have m2 := w2.length
      rw [List.size_toArray] at h1 h2
      have hd : ds[j]? = some ds[j] := List.getElem?_eq_getElem (by omega)
      have he : es[j]? = some es[j] := List.getElem?_eq_getElem (by omega)
      obtain ⟨x', hx, rx'⟩ := r1.get hd
      obtain ⟨y', hy, ry'⟩ := r2.get he
      obtain ⟨u', hu', ru'⟩ := w1.get hx
      obtain ⟨v', hv', rv'⟩ := w2.get hy
      have z1 : us.toArray[j] = u' := by
        have := List.getElem?_eq_some_iff.mp hu'
        simpa using this.2
      have z2 : vs.toArray[j] = v' := by
        have := List.getElem?_eq_some_iff.mp hv'
        simpa using this.2
      rw [z1, z2]
      exact (deq_run I hS hK n _ _ _ x' y' u' v' A.in1 (hc j _ _ hd he) (.inl rx') (.inl ry') ru' rv' (by show A.units + 1 + n < cLine; omega)).2
    rcases deqF_inv h with ⟨a, c, h1, h2, h3⟩ | ⟨ds, es, rfl, rfl, h3⟩ | ⟨ds, es, r, rfl, rfl, h3, h4⟩
    · obtain ⟨r1, f1⟩ := toV_pk h1 p
      obtain ⟨r2, f2⟩ := toV_pk h2 q
      subst r1; subst r2; subst h3
      exact ⟨rc_flat rx ry f1 f2, eqAt_V rx ry f1 f2⟩
    · obtain ⟨a, xs, rfl, e1, r1⟩ := p.lst hS
      obtain ⟨a', ys, rfl, e2, r2⟩ := q.lst hS
      obtain rfl : u = .ref a := rx
      obtain rfl : v = .ref a' := ry
      obtain ⟨us, w1, ⟨o1, n1, p1, p2, _, p3⟩, _⟩ := I.list (SqL.of e1)
      obtain ⟨vs, w2, ⟨o2, n2, q1, q2, _, q3⟩, _⟩ := I.list (SqL.of e2)
      have L1 : s.heap.IsList a us.toArray := ⟨o1, p1, p2, n1, p3⟩
      have L2 : s.heap.IsList a' vs.toArray := ⟨o2, q1, q2, n2, q3⟩
      have rc : SeqAt.RcAt A s (.ref a) (.ref a') b ∧ SeqAt.RcNeAt A s (.ref a) (.ref a') (!b) := by
        rcases h3 with ⟨hl, h3⟩ | ⟨hl, h3⟩
        · obtain ⟨c, hb, hc⟩ := deqL_all h3
          have hsz : us.toArray.size = vs.toArray.size := by
            have := r1.length; have := r2.length; have := w1.length; have := w2.length
            simp only [List.size_toArray]; omega
          have hr : min ds.length es.length = us.toArray.size := by
            have := r1.length; have := w1.length
            simp only [List.size_toArray]; omega
          rw [hb, hr]
          exact ⟨SeqAt.RcAt.lists L1 L2 hsz (by omega) (items r1 r2 w1 w2 hc), SeqAt.RcNeAt.lists L1 L2 hsz (by omega) (items r1 r2 w1 w2 hc)⟩
        · have hsz : (us.toArray.size != vs.toArray.size) = true := by
            have := r1.length; have := r2.length; have := w1.length; have := w2.length
            simp only [List.size_toArray, bne_iff_ne]; omega
          subst h3
          exact ⟨SeqAt.RcAt.lists_lengths L1 L2 hsz (by omega), SeqAt.RcNeAt.lists_lengths L1 L2 hsz (by omega)⟩
      refine ⟨rc, ?_⟩
      by_cases z : a = a'
      · subst z
        rw [same _ h p q]
        exact .same _
      · exact SeqAt.EqAt.of_refs z rc.1
    · obtain ⟨a, xs, rfl, e1, r1⟩ := p.tup hS
      obtain ⟨a', ys, rfl, e2, r2⟩ := q.tup hS
      obtain rfl : u = .ref a := rx
      obtain rfl : v = .ref a' := ry
      rw [← hK] at e1 e2
      obtain ⟨us, w1, ⟨o1, p1, p2, n1, p3⟩, _⟩ := I.tuple e1
      obtain ⟨vs, w2, ⟨o2, q1, q2, n2, q3⟩, _⟩ := I.tuple e2
      have L1 : s.heap.IsTuple a us.toArray := ⟨o1, p1, p2, n1, p3⟩
      have L2 : s.heap.IsTuple a' vs.toArray := ⟨o2, q1, q2, n2, q3⟩
      obtain ⟨c, hb, hc⟩ := deqL_all h3
      have e3 : min ds.length es.length = min us.toArray.size vs.toArray.size := by
        have := r1.length; have := r2.length; have := w1.length; have := w2.length
        simp only [List.size_toArray]; omega
      have e4 : decide (ds.length = es.length) = (us.toArray.size == vs.toArray.size) := by
        have := r1.length; have := r2.length; have := w1.length; have := w2.length
        rw [Bool.eq_iff_iff]
        simp only [List.size_toArray, decide_eq_true_eq, beq_iff_eq]; omega
      have rc : SeqAt.RcAt A s (.ref a) (.ref a') b ∧ SeqAt.RcNeAt A s (.ref a) (.ref a') (!b) := by
        rw [h4, hb, e3, e4]
        exact ⟨SeqAt.RcAt.tuples L1 L2 (by omega) (items r1 r2 w1 w2 hc), SeqAt.RcNeAt.tuples L1 L2 (by omega) (items r1 r2 w1 w2 hc)⟩
      refine ⟨rc, ?_⟩
      by_cases z : a = a'
      · subst z
        rw [same _ h p q]
        exact .same _
      · exact SeqAt.EqAt.of_refs z rc.1
def eqD (x y : D) : Option Vr := (deqF 60 x y).map fun b => .sh (.bl b)
def neD (x y : D) : Option Vr := (deqF 60 x y).map fun b => .sh (.bl (!b))
def rEqL (g : G) : R2 := fun x y H Q => ∃ F d e b, Sub F H ∧ Pk g F H x d ∧ Pk g F H y e ∧ deqF 60 d e = some b ∧ Q (.bl b) H
def rNeL (g : G) : R2 := fun x y H Q => ∃ F d e b, Sub F H ∧ Pk g F H x d ∧ Pk g F H y e ∧ deqF 60 d e = some b ∧ Q (.bl (!b)) H
theorem op_eqL {k : Nat} (o : XO g k X) : OpR X (compareOp .Eq) (rEqL g) := by
  intro pins s σ H x y v u Q I rx ry ⟨F, d, e, b, hS, p, q, h, k⟩
  exact (deq_run I hS o.K 60 d e b x y v u X.A h p q rx ry (by have := o.hu64; omega)).1.1 _ _ _ _ ⟨.bl b, H, I, rfl, k⟩
theorem op_neL {k : Nat} (o : XO g k X) : OpR X (compareOp .NotEq) (rNeL g) := by
  intro pins s σ H x y v u Q I rx ry ⟨F, d, e, b, hS, p, q, h, k⟩
  exact (deq_run I hS o.K 60 d e b x y v u X.A h p q rx ry (by have := o.hu64; omega)).1.2 _ _ _ _ ⟨.bl (!b), H, I, rfl, k⟩
theorem p_eq : Op2 g eqD (rEqL g) := by
  refine ⟨fun x y z e i => ?_, fun F H x y dx dy z Q s p q e n => ?_⟩
  · obtain ⟨b, _, rfl⟩ := Option.map_eq_some_iff.mp e
    exact fun z => nomatch z
  · obtain ⟨b, h, rfl⟩ := Option.map_eq_some_iff.mp e
    exact ⟨F, dx, dy, b, s, p, q, h, n F _ H (Ext.refl s) (.bl b)⟩
theorem p_ne : Op2 g neD (rNeL g) := by
  refine ⟨fun x y z e i => ?_, fun F H x y dx dy z Q s p q e n => ?_⟩
  · obtain ⟨b, _, rfl⟩ := Option.map_eq_some_iff.mp e
    exact fun z => nomatch z
  · obtain ⟨b, h, rfl⟩ := Option.map_eq_some_iff.mp e
    exact ⟨F, dx, dy, b, s, p, q, h, n F _ H (Ext.refl s) (.bl (!b))⟩
end
end RW
namespace RW
open PySem L2
section
variable {g : G} {X : Cx}
theorem Fin.q {F H : Hp} {d : D} {Q : VK} (n : Fin g F H (.sh d) Q) (s : Sub F H) {v : V} (r : Rep g F v d) : Q v H := n F v H (Ext.refl s) r
theorem Fin.newT {F H : Hp} {ds : List D} {xs : List V} {Q : VK} (n : Fin g F H (.sh (.tup ds)) Q) (s : Sub F H) (r : RepAll g F xs ds) (p : Addr) (hp : H p = none) : Q (.ref p) (upd H p (.tup xs)) :=
  n _ _ _ (Ext.new s hp) (.tup upd_same (r.mono (upd_le (s.free hp))))
theorem Fin.newO {F H : Hp} {d : D} {o : HO} {Q : VK} (n : Fin g F H (.tmp d) Q) (s : Sub F H) (r : RepO g F o d) (p : Addr) (hp : H p = none) : Q (.ref p) (upd H p o) :=
  n F p o _ (Ext.tmp s hp) hp (s.free hp) upd_same r
theorem RepAll.app {F : Hp} : ∀ {xs ys : List V} {ds es : List D}, RepAll g F xs ds → RepAll g F ys es → RepAll g F (xs ++ ys) (ds ++ es)
  | _, _, _, _, .nil, h => h
  | _, _, _, _, .cons a b, h => .cons a (RepAll.app b h)
theorem RepAll.take {F : Hp} : ∀ {xs : List V} {ds : List D} (n : Nat), RepAll g F xs ds → RepAll g F (xs.take n) (ds.take n)
  | _, _, 0, _ => by simp; exact .nil
  | _, _, _ + 1, .nil => .nil
  | _, _, n + 1, .cons a b => .cons a (RepAll.take n b)
theorem RepAll.drop {F : Hp} : ∀ {xs : List V} {ds : List D} (n : Nat), RepAll g F xs ds → RepAll g F (xs.drop n) (ds.drop n)
  | _, _, 0, h => h
  | _, _, _ + 1, .nil => .nil
  | _, _, n + 1, .cons a b => RepAll.drop n b
theorem RepAll.rep {F : Hp} {xs : List V} {ds : List D} (h : RepAll g F xs ds) : ∀ n : Nat, RepAll g F (List.replicate n xs).flatten (List.replicate n ds).flatten
  | 0 => .nil
  | n + 1 => by simp only [List.replicate_succ, List.flatten_cons]; exact h.app (RepAll.rep h n)
def addD : D → D → Option Vr
  | .int i, .int j => some (.sh (.int (i + j)))
  | .str x, .str y => if x.length + y.length ≤ sizeLine then some (.sh (.str (x ++ y))) else none
  | .lst a, .lst b => if a.length + b.length ≤ sizeLine then some (.tmp (.lst (a ++ b))) else none
  | .tup a, .tup b => if a.length + b.length ≤ sizeLine then some (.sh (.tup (a ++ b))) else none
  | _, _ => none
def rAddD (K : PySem.W.Frag) : R2 := fun x y H Q => ((rI0 fun i j => .int (i + j)) x y H Q ∨ (∃ i j, x = .str i ∧ y = .str j ∧ i.length + j.length ≤ sizeLine ∧ Q (.str (i ++ j)) H)) ∨ (rCat x y H Q ∨ rCatA K x y H Q)
theorem op_addD : OpR X (binaryOp .Add) (rAddD X.K) := OpR.or (OpR.or op_add op_add_str) (OpR.or op_cat op_catA)
theorem p_addD : Op2 g addD (rAddD g.K) := by
  refine ⟨fun x y z e i => ?_, fun F H x y dx dy z Q s p q e n => ?_⟩
  · unfold addD at e
    split at e <;> first | cases e; exact fun z => nomatch z | (split at e <;> first | cases e; exact fun z => nomatch z | cases e) | cases e
  · unfold addD at e
    split at e
    · cases e
      obtain rfl := p.int
      obtain rfl := q.int
      exact .inl (.inl ⟨_, _, rfl, rfl, n.q s (.int _)⟩)
    · split at e
      · cases e
        obtain rfl := p.str
        obtain rfl := q.str
        exact .inl (.inr ⟨_, _, rfl, rfl, by assumption, n.q s (.str _)⟩)
      · cases e
    · split at e
      · cases e
        obtain ⟨a, xs, rfl, e1, r1⟩ := p.lst s
        obtain ⟨b, ys, rfl, e2, r2⟩ := q.lst s
        exact .inr (.inl ⟨a, b, xs, ys, rfl, rfl, e1, e2, by rw [r1.length, r2.length]; assumption, fun p hp => n.newO s (.lst (r1.app r2)) p hp⟩)
      · cases e
    · split at e
      · cases e
        obtain ⟨a, xs, rfl, e1, r1⟩ := p.tup s
        obtain ⟨b, ys, rfl, e2, r2⟩ := q.tup s
        refine .inr (.inr ⟨a, b, xs, ys, rfl, rfl, e1, e2, by rw [r1.length, r2.length]; assumption, fun z => ?_, fun _ z => ?_, fun _ _ p hp => n.newT s (r1.app r2) p hp⟩)
        · subst z
          cases r1
          rcases q with q | ⟨_, _, _, _, q⟩
          · exact n.q s q
          · cases q
        · subst z
          cases r2
          rcases p with p | ⟨_, _, _, _, p⟩
          · refine n.q s ?_
            simpa using p
          · cases p
      · cases e
    · cases e
theorem d_add {a b : Expr} {ma mb : M g.R.S Vr} {pos : Pos} {k : Nat} (o : XO g k X) (ha : DE g X a ma) (hb : DE g X b mb) : DE g X (.BinOp a .Add b pos) (mOp2 addD ma mb) := d_bin (by rw [← o.K]; exact op_addD) p_addD ha hb
theorem d_sub {a b : Expr} {ma mb : M g.R.S Vr} {pos : Pos} (ha : DE g X a ma) (hb : DE g X b mb) : DE g X (.BinOp a .Sub b pos) (mOp2 (o2I fun i j => some (.int (i - j))) ma mb) := d_bin op_sub p_sub ha hb
theorem d_mod {a b : Expr} {ma mb : M g.R.S Vr} {pos : Pos} (ha : DE g X a ma) (hb : DE g X b mb) : DE g X (.BinOp a .Mod b pos) (mOp2 (o2I iMod) ma mb) := d_bin op_mod p_mod ha hb
theorem d_div {a b : Expr} {ma mb : M g.R.S Vr} {pos : Pos} (ha : DE g X a ma) (hb : DE g X b mb) : DE g X (.BinOp a .FloorDiv b pos) (mOp2 (o2I iDiv) ma mb) := d_bin op_fdiv p_div ha hb
theorem d_pow {a b : Expr} {ma mb : M g.R.S Vr} {pos : Pos} (ha : DE g X a ma) (hb : DE g X b mb) : DE g X (.BinOp a .Pow b pos) (mOp2 (o2I iPow) ma mb) := d_bin op_pow p_pow ha hb
def mulD : D → D → Option Vr
  | .int i, .int j => (iMul i j).map .sh
  | .lst a, .int k => if k.natAbs ≤ 16777216 ∧ a.length * k.toNat ≤ sizeLine then some (.tmp (.lst (List.replicate k.toNat a).flatten)) else none
  | _, _ => none
theorem p_mulD : Op2 g mulD (fun x y H Q => rI CMul (fun i j => .int (i * j)) x y H Q ∨ rRep x y H Q) := by
  refine ⟨fun x y z e i => ?_, fun F H x y dx dy z Q s p q e n => ?_⟩
  · unfold mulD at e
    split at e
    · obtain ⟨d, _, rfl⟩ := Option.map_eq_some_iff.mp e; exact fun z => nomatch z
    · split at e
      · cases e; exact fun z => nomatch z
      · cases e
    · cases e
  · unfold mulD at e
    split at e
    · obtain ⟨d, h, rfl⟩ := Option.map_eq_some_iff.mp e
      obtain rfl := p.int
      obtain rfl := q.int
      unfold iMul at h
      split at h
      · rename_i hc
        cases h; exact .inl ⟨_, _, rfl, rfl, hc.imp (fun h => ⟨by omega, by omega⟩) (fun h => ⟨by omega, by omega⟩), n.q s (.int _)⟩
      · cases h
    · split at e
      · rename_i h
        cases e
        obtain ⟨a, xs, rfl, e1, r1⟩ := p.lst s
        obtain rfl := q.int
        exact .inr ⟨a, _, xs, rfl, rfl, e1, by omega, by omega, by rw [r1.length]; exact h.2, fun p hp => n.newO s (.lst (r1.rep _)) p hp⟩
      · cases e
    · cases e
theorem d_mul {a b : Expr} {ma mb : M g.R.S Vr} {pos : Pos} (ha : DE g X a ma) (hb : DE g X b mb) : DE g X (.BinOp a .Mult b pos) (mOp2 mulD ma mb) := d_bin (OpR.or op_mul op_rep) p_mulD ha hb
theorem d_eq {a b : Expr} {ma mb : M g.R.S Vr} {pos : Pos} {k : Nat} (o : XO g k X) (ha : DE g X a ma) (hb : DE g X b mb) : DE g X (.Compare a [.Eq] [b] pos) (mOp2 eqD ma mb) := d_cmp (op_eqL o) p_eq ha hb (nobehind _ (by decide) (by decide))
theorem t_eq {a b : Expr} {ma mb : M g.R.S Vr} {pos : Pos} {k : Nat} (o : XO g k X) (ha : DE g X a ma) (hb : DE g X b mb) : DT g X (.Compare a [.Eq] [b] pos) (mOp2 eqD ma mb) := t_cmp (op_eqL o) p_eq ha hb (nobehind _ (by decide) (by decide))
theorem t_ne {a b : Expr} {ma mb : M g.R.S Vr} {pos : Pos} {k : Nat} (o : XO g k X) (ha : DE g X a ma) (hb : DE g X b mb) : DT g X (.Compare a [.NotEq] [b] pos) (mOp2 neD ma mb) := t_cmp (op_neL o) p_ne ha hb (nobehind _ (by decide) (by decide))
def ltD : D → D → Option Vr
  | .int i, .int j => some (.sh (.bl (decide (i < j))))
  | .str x, .str y => some (.sh (.bl (decide (x.cps.toList < y.cps.toList))))
  | _, _ => none
theorem op_ltD : OpR X (compareOp .Lt) (fun x y H Q => (rI0 fun i j => .bl (decide (i < j))) x y H Q ∨ ∃ i j, x = .str i ∧ y = .str j ∧ Q (.bl (decide (i.cps.toList < j.cps.toList))) H) := OpR.or op_lt op_lt_str
theorem p_ltD : Op2 g ltD (fun x y H Q => (rI0 fun i j => .bl (decide (i < j))) x y H Q ∨ ∃ i j, x = .str i ∧ y = .str j ∧ Q (.bl (decide (i.cps.toList < j.cps.toList))) H) := by
  refine ⟨fun x y z e i => ?_, fun F H x y dx dy z Q s p q e n => ?_⟩
  · unfold ltD at e
    split at e <;> cases e <;> exact fun z => nomatch z
  · unfold ltD at e
    split at e
    · cases e
      obtain rfl := p.int
      obtain rfl := q.int
      exact .inl ⟨_, _, rfl, rfl, n.q s (.bl _)⟩
    · cases e
      obtain rfl := p.str
      obtain rfl := q.str
      exact .inr ⟨_, _, rfl, rfl, n.q s (.bl _)⟩
    · cases e
theorem t_lt {a b : Expr} {ma mb : M g.R.S Vr} {pos : Pos} (ha : DE g X a ma) (hb : DE g X b mb) : DT g X (.Compare a [.Lt] [b] pos) (mOp2 ltD ma mb) := t_cmp op_ltD p_ltD ha hb (nobehind _ (by decide) (by decide))
abbrev leI : D → D → Option Vr := o2I fun i j => some (.bl (decide (i ≤ j)))
abbrev gtI : D → D → Option Vr := o2I fun i j => some (.bl (decide (j < i)))
abbrev geI : D → D → Option Vr := o2I fun i j => some (.bl (decide (j ≤ i)))
theorem t_ge {a b : Expr} {ma mb : M g.R.S Vr} {pos : Pos} (ha : DE g X a ma) (hb : DE g X b mb) : DT g X (.Compare a [.GtE] [b] pos) (mOp2 geI ma mb) := t_cmp op_ge p_ge ha hb (nobehind _ (by decide) (by decide))
end
end RW
namespace RW
open PySem L2
theorem Str.ext {a b : Str} (h : a.cps.toList = b.cps.toList) : a = b := by
  cases a; cases b; congr; exact Array.toList_inj.mp h
def strsOf : List D → Option (List Str)
  | [] => some []
  | .str x :: ds => (strsOf ds).map fun xs => x :: xs
  | _ => none
section
variable {g : G} {X : Cx}
theorem split2 {f f1 f2 : D → D → Option Vr} (hf : ∀ x y z, f x y = some z → f1 x y = some z ∨ f2 x y = some z) {ma mb : M g.R.S Vr} {σ : St} {H : Hp} {Q : VK} (h : tM g (mOp2 f ma mb) σ H Q) : tM g (mOp2 f1 ma mb) σ H Q ∨ tM g (mOp2 f2 ma mb) σ H Q := by
  obtain ⟨F, s, res, s', I, e, k⟩ := h
  unfold mOp2 at e
  obtain ⟨p, e1, e⟩ := Option.bind_eq_some_iff.mp e
  obtain ⟨q, e2, e⟩ := Option.bind_eq_some_iff.mp e
  obtain ⟨x, e3, e⟩ := Option.bind_eq_some_iff.mp e
  obtain ⟨y, e4, e⟩ := Option.bind_eq_some_iff.mp e
  obtain ⟨z, e5, e⟩ := Option.map_eq_some_iff.mp e
  cases e
  have build : ∀ f' : D → D → Option Vr, f' x y = some res → mOp2 f' ma mb s = some (res, q.2) := fun f' hf => by
    unfold mOp2
    simp only [e1, e2, e3, e4, hf, Option.bind_some, Option.map_some]
  rcases hf x y res e5 with h | h
  · exact .inl ⟨F, s, res, q.2, I, build _ h, k⟩
  · exact .inr ⟨F, s, res, q.2, I, build _ h, k⟩
def idxS : D → D → Option Vr
  | .lst ds, .int i => (atI ds i).map .sh
  | .tup ds, .int i => (atI ds i).map .sh
  | .str x, .int i => if x.length ≤ sizeLine then (atI x.cps.toList i).map fun c => .sh (.str ⟨#[c]⟩) else none
  | _, _ => none
def idxK : D → D → Option Vr
  | .dct false es, k => (kOf k).bind fun key => (getE es (keyD key)).map .sh
  | _, _ => none
def idxD (x y : D) : Option Vr := match x with
  | .dct _ _ => idxK x y
  | _ => idxS x y
theorem atI_rep {F : Hp} {xs : List V} {ds : List D} {i : Int} {d : D} (r : RepAll g F xs ds) (h : atI ds i = some d) : ∃ x, atI xs i = some x ∧ Rep g F x d := by
  unfold atI at h ⊢
  rw [r.length]
  obtain ⟨j, h1, h2⟩ := Option.bind_eq_some_iff.mp h
  obtain ⟨x, h3, h4⟩ := r.get h2
  exact ⟨x, by rw [h1]; exact h3, h4⟩
theorem p_idxS : Op2 g idxS (rIx g.K) := by
  refine ⟨fun x y z e i => ?_, fun F H x y dx dy z Q s p q e n => ?_⟩
  · unfold idxS at e
    split at e
    · obtain ⟨d, _, rfl⟩ := Option.map_eq_some_iff.mp e; exact fun z => nomatch z
    · obtain ⟨d, _, rfl⟩ := Option.map_eq_some_iff.mp e; exact fun z => nomatch z
    · split at e
      · obtain ⟨d, _, rfl⟩ := Option.map_eq_some_iff.mp e; exact fun z => nomatch z
      · cases e
    · cases e
  · unfold idxS at e
    split at e
    · obtain ⟨d, h, rfl⟩ := Option.map_eq_some_iff.mp e
      obtain ⟨a, xs, rfl, e1, r1⟩ := p.lst s
      obtain rfl := q.int
      obtain ⟨v, h1, h2⟩ := atI_rep r1 h
      exact .inl ⟨a, xs, _, v, rfl, rfl, SqL.of e1, h1, n.q s h2⟩
    · obtain ⟨d, h, rfl⟩ := Option.map_eq_some_iff.mp e
      obtain ⟨a, xs, rfl, e1, r1⟩ := p.tup s
      obtain rfl := q.int
      obtain ⟨v, h1, h2⟩ := atI_rep r1 h
      exact .inr (.inl ⟨a, xs, _, v, rfl, rfl, e1, h1, n.q s h2⟩)
    · split at e
      · obtain ⟨c, h, rfl⟩ := Option.map_eq_some_iff.mp e
        obtain rfl := p.str
        obtain rfl := q.int
        exact .inr (.inr ⟨_, _, c, rfl, rfl, by assumption, h, n.q s (.str _)⟩)
      · cases e
    · cases e
theorem p_idxK : Op2 g idxK (fun x y H Q => ∃ a v, x = .ref a ∧ DGet H a y (some v) ∧ Q v H) := by
  refine ⟨fun x y z e i => ?_, fun F H x y dx dy z Q s p q e n => ?_⟩
  · unfold idxK at e
    split at e
    · obtain ⟨k, _, e⟩ := Option.bind_eq_some_iff.mp e
      obtain ⟨d, _, rfl⟩ := Option.map_eq_some_iff.mp e; exact fun z => nomatch z
    · cases e
  · unfold idxK at e
    split at e
    · obtain ⟨k, hk, e⟩ := Option.bind_eq_some_iff.mp e
      obtain ⟨d, h, rfl⟩ := Option.map_eq_some_iff.mp e
      obtain ⟨a, kvs, rfl, e1, r1⟩ := p.dK s
      obtain ⟨v, h1, h2⟩ := (r1.val k).1 d h
      have hy : y = kV k := by
        have := kOf_some hk
        subst this
        cases k with
        | inl i => exact q.int
        | inr x => exact q.str
      exact ⟨a, v, rfl, .inl ⟨kvs, k, e1, hy, h1.symm⟩, n.q s h2⟩
    · cases e
theorem d_idx {a b : Expr} {ma mb : M g.R.S Vr} {pos : Pos} {k : Nat} (o : XO g k X) (ha : DE g X a ma) (hb : DE g X b mb) (hs : PlainIx b := by intro _ _; rfl) (hs2 : NoSl b := by intro _ _; rfl) : DE g X (.Subscript a b pos) (mOp2 idxD ma mb) := by
  refine PE.imp (PE.or (pe_ix ix_seq ha hb hs) (pe_dget o.hu ha hb hs2)) fun σ H Q h => ?_
  rcases split2 (f1 := idxS) (f2 := idxK) (fun x y z e => by
    unfold idxD at e
    split at e
    · exact .inr e
    · exact .inl e) h with h | h
  · exact .inl (tOp2_of (by rw [o.K]; exact p_idxS) h)
  · exact .inr (tOp2_of p_idxK h)
theorem PO.imp {e : Option Expr} {t t' : TO} (h : PO X e t) (w : ∀ σ H Q, t' σ H Q → t σ H Q) : PO X e t' := ⟨fun pins s σ H Q I q => h.run pins s σ H Q I (w _ _ _ q)⟩
def mNoP {R : Type} : M R (Option Int) := fun s => some (none, s)
def mPt {R : Type} (ma : M R Vr) : M R (Option Int) := fun s => (ma s).bind fun p => match p.1 with
  | .sh (.int i) => some (some i, p.2)
  | _ => none
def cutL {α : Type} (xs : List α) (lo hi : Option Int) : List α := (xs.drop (HT.sIx xs.length 0 lo)).take (HT.sIx xs.length xs.length hi - HT.sIx xs.length 0 lo)
def cutD (d : D) (lo hi : Option Int) : Option Vr := match d with
  | .lst ds => some (.tmp (.lst (cutL ds lo hi)))
  | .tup ds => some (.sh (.tup (cutL ds lo hi)))
  | .str x => if x.length ≤ sizeLine then some (.sh (.str (cutS x lo hi))) else none
  | _ => none
def mSl {R : Type} (ma : M R Vr) (ml mh : M R (Option Int)) : M R Vr := fun s => (ma s).bind fun p => (ml p.2).bind fun q => (mh q.2).bind fun r => (pk (soft p.1) r.2).bind fun x => (cutD x q.1 r.1).map fun z => (z, r.2)
theorem d_b1 {x : Str} {id : String} {r : List V → Hp → VK → Prop} {f : D → Option Vr} {a : Expr} {ma : M g.R.S Vr} {p pos : Pos} (hc : CallR X (.builtin id) r) (ok : Op1 g f (fun x H Q => r [x] H Q)) (hv : bootBuiltins x = some (.builtin id)) (hg : Gl X x) (hm : X.mg x = none) (ha : DE g X a ma) (hn : x ≠ "__name__" := by decide) (hdb : (x == ("__debug__" : Str)) = false := by decide)
    (he : starEach [a] X.env = (false, eval a X.env) :: starEach [] X.env := by rfl) (hpl : (backTo pos (starEach [] X.env)).any (·.1) = false := by rfl) : DE g X (.Call (.Name x p) [a] [] pos) (mOp1 f ma) :=
  PE.imp (pe_callB hc hg hm hv (pa_cons ha pa_nil he) hn hdb he hpl) fun _ _ _ h => tOp1_of ok h
theorem d_t1 {x : Str} {T : String} {r : List V → Hp → VK → Prop} {f : D → Option Vr} {a : Expr} {ma : M g.R.S Vr} {p pos : Pos} (hc : CallR X (.type T) r) (ok : Op1 g f (fun x H Q => r [x] H Q)) (hv : bootBuiltins x = some (.type T)) (hg : Gl X x) (hm : X.mg x = none) (ha : DE g X a ma) (hn : x ≠ "__name__" := by decide) (hdb : (x == ("__debug__" : Str)) = false := by decide)
    (he : starEach [a] X.env = (false, eval a X.env) :: starEach [] X.env := by rfl) (hpl : (backTo pos (starEach [] X.env)).any (·.1) = false := by rfl) : DE g X (.Call (.Name x p) [a] [] pos) (mOp1 f ma) :=
  PE.imp (pe_callTy hc hg hm hv (pa_cons ha pa_nil he) hn hdb he hpl) fun _ _ _ h => tOp1_of ok h
theorem d_b2 {x : Str} {id : String} {r : List V → Hp → VK → Prop} {f : D → D → Option Vr} {a b : Expr} {ma mb : M g.R.S Vr} {p pos : Pos} (hc : CallR X (.builtin id) r) (ok : Op2 g f (fun x y H Q => r [x, y] H Q)) (hv : bootBuiltins x = some (.builtin id)) (hg : Gl X x) (hm : X.mg x = none) (ha : DE g X a ma) (hb : DE g X b mb) (hn : x ≠ "__name__" := by decide) (hdb : (x == ("__debug__" : Str)) = false := by decide)
    (he : starEach [a, b] X.env = (false, eval a X.env) :: starEach [b] X.env := by rfl) (he2 : starEach [b] X.env = (false, eval b X.env) :: starEach [] X.env := by rfl) (hpl : (backTo pos (starEach [b] X.env)).any (·.1) = false := by rfl) : DE g X (.Call (.Name x p) [a, b] [] pos) (mOp2 f ma mb) :=
  PE.imp (pe_callB hc hg hm hv (pa_cons ha (pa_cons hb pa_nil he2) he) hn hdb he hpl) fun _ _ _ h => tOp2_of ok h
def lenD : D → Option Vr
  | .lst ds => some (.sh (.int ds.length))
  | .tup ds => some (.sh (.int ds.length))
  | .dct false es => some (.sh (.int es.length))
  | .str x => if x.length ≤ sizeLine then some (.sh (.int x.length)) else none
  | .scr ns => some (.sh (.int ns.length))
  | _ => none
theorem call_lenRd : CallR X (.builtin "len") (fun xs H Q => ∃ a kvs, xs = [V.ref a] ∧ Rd H a (.dK kvs) ∧ Q (.int kvs.length) H) := by
  intro pins s σ H xs us Q I r h
  obtain ⟨a, kvs, rfl, ha, q⟩ := h
  obtain ⟨u, rfl, ru⟩ := vals1 r
  cases ru
  exact d_len I ha fun t s' I' => ⟨.int kvs.length, H, I', ⟨t, rfl⟩, q⟩
theorem p_len : Op1 g lenD (fun x H Q => (∃ y n, [x] = [y] ∧ LenV g.K y H n ∧ Q (.int n) H) ∨ ∃ a kvs, [x] = [V.ref a] ∧ Rd H a (.dK kvs) ∧ Q (.int kvs.length) H) := by
  refine ⟨fun x z e i => ?_, fun F H x dx z Q s p e n => ?_⟩
  · unfold lenD at e
    split at e <;> first | cases e; exact fun z => nomatch z | (split at e <;> first | cases e; exact fun z => nomatch z | cases e) | cases e
  · unfold lenD at e
    split at e
    · cases e
      obtain ⟨a, xs, rfl, e1, r1⟩ := p.lst s
      exact .inl ⟨_, xs.length, rfl, .inl ⟨xs, SqL.of e1, rfl⟩, by rw [r1.length]; exact n.q s (.int _)⟩
    · cases e
      obtain ⟨a, xs, rfl, e1, r1⟩ := p.tup s
      exact .inl ⟨_, xs.length, rfl, .inr ⟨xs, e1, rfl⟩, by rw [r1.length]; exact n.q s (.int _)⟩
    · cases e
      obtain ⟨a, kvs, rfl, e1, r1⟩ := p.dK s
      exact .inr ⟨a, kvs, rfl, e1, by rw [r1.length]; exact n.q s (.int _)⟩
    · split at e
      · cases e
        obtain rfl := p.str
        exact .inl ⟨_, _, rfl, ⟨by assumption, rfl⟩, n.q s (.int _)⟩
      · cases e
    · cases e
      obtain ⟨a, rfl, e1⟩ := p.scr s
      exact .inl ⟨_, _, rfl, .inl ⟨_, e1, rfl⟩, by rw [List.length_map]; exact n.q s (.int _)⟩
    · cases e
theorem d_len' {a : Expr} {ma : M g.R.S Vr} {p pos : Pos} {k : Nat} (o : XO g k X) (hg : Gl X "len") (hm : X.mg "len" = none) (ha : DE g X a ma) (he : starEach [a] X.env = (false, eval a X.env) :: starEach [] X.env := by rfl) : DE g X (.Call (.Name "len" p) [a] [] pos) (mOp1 lenD ma) :=
  d_b1 (CallR.or call_len call_lenRd) (by rw [o.K]; exact p_len) PySem.boot_len hg hm ha (by decide) (by decide) he rfl
def absD : D → Option Vr
  | .int i => some (.sh (.int (if i < 0 then -i else i)))
  | _ => none
theorem d_abs {a : Expr} {ma : M g.R.S Vr} {p pos : Pos} (hg : Gl X "abs") (hm : X.mg "abs" = none) (ha : DE g X a ma) (he : starEach [a] X.env = (false, eval a X.env) :: starEach [] X.env := by rfl) : DE g X (.Call (.Name "abs" p) [a] [] pos) (mOp1 absD ma) := by
  refine d_b1 call_abs ⟨fun x z e i => ?_, fun F H x dx z Q s p e n => ?_⟩ (by decide +kernel) hg hm ha (by decide) (by decide) he rfl
  · cases x <;> cases e
    exact fun z => nomatch z
  · cases dx <;> cases e
    obtain rfl := p.int
    exact ⟨_, rfl, n.q s (.int _)⟩
def intD : D → Option Vr
  | .int i => some (.sh (.int i))
  | .bl k => some (.sh (.int (if k then 1 else 0)))
  | _ => none
theorem d_int1 {a : Expr} {ma : M g.R.S Vr} {p pos : Pos} (hg : Gl X "int") (hm : X.mg "int" = none) (ha : DE g X a ma) (he : starEach [a] X.env = (false, eval a X.env) :: starEach [] X.env := by rfl) : DE g X (.Call (.Name "int" p) [a] [] pos) (mOp1 intD ma) := by
  refine d_t1 call_int1 ⟨fun x z e i => ?_, fun F H x dx z Q s p e n => ?_⟩ (by decide +kernel) hg hm ha (by decide) (by decide) he rfl
  · cases x <;> cases e <;> exact fun z => nomatch z
  · cases dx <;> cases e
    · obtain rfl := p.bl
      exact .inr ⟨_, rfl, n.q s (.int _)⟩
    · obtain rfl := p.int
      exact .inl ⟨_, rfl, n.q s (.int _)⟩
abbrev min2 : D → D → Option Vr := o2I fun i j => some (.int (if j < i then j else i))
theorem d_min2 {a b : Expr} {ma mb : M g.R.S Vr} {p pos : Pos} {k : Nat} (o : XO g k X) (hg : Gl X "min") (hm : X.mg "min" = none) (ha : DE g X a ma) (hb : DE g X b mb) (he : starEach [a, b] X.env = (false, eval a X.env) :: starEach [b] X.env := by rfl) (he2 : starEach [b] X.env = (false, eval b X.env) :: starEach [] X.env := by rfl) (hpl : (backTo pos (starEach [b] X.env)).any (·.1) = false := by rfl) : DE g X (.Call (.Name "min" p) [a, b] [] pos) (mOp2 min2 ma mb) :=
  d_b2 (call_min2 o.calm) (op2_int fun i j d H Q F e n => by cases e; exact ⟨i, j, rfl, n _ (.int _)⟩) (by decide +kernel) hg hm ha hb (by decide) (by decide) he he2 hpl
end
end RW
namespace RW
open PySem L2
section
variable {g : G} {X : Cx}
def joinD : D → D → Option Vr
  | .str a, .lst ds => (strsOf ds).bind fun ys => if (ys.map (·.length)).sum + ys.length * a.length ≤ 16777216 then some (.sh (.str (Txt.join a ys))) else none
  | .str a, .tup ds => (strsOf ds).bind fun ys => if (ys.map (·.length)).sum + ys.length * a.length ≤ 16777216 then some (.sh (.str (Txt.join a ys))) else none
  | _, _ => none
end
end RW
namespace RW
open PySem L2
section
variable {g : G} {X : Cx}
def mJoin {R : Type} (ma mb : M R Vr) : M R Vr := fun s => (ma s).bind fun p => match p.1 with
  | .sh (.str a) => (mb p.2).bind fun q => (pk (soft q.1) q.2).bind fun y => (joinD (.str a) y).map fun z => (z, q.2)
  | _ => none
theorem Sim.mut {F H : Hp} {s : S g.R.S} {σ : St} {i : Nat} {c : Cell} {p : Addr} {o o' : HO} {d' : D} (I : Sim g F s σ H) (ec : s.e[i]? = some (some c)) (ho : c.own = true) (hv : σ[i]? = some (some (.ref p))) (hp : H p = some o) (r : RepO g F o' d') :
    Sim g F { s with e := s.e.set i (some ⟨d', true⟩) } σ (upd H p o') ∧ Keep g F s σ H F { s with e := s.e.set i (some ⟨d', true⟩) } σ (upd H p o') := by
  have own : Own σ s.e p := ⟨i, c, ec, ho, hv⟩
  obtain ⟨nF, nft, _⟩ := I.own_at own
  have hi : i < s.e.length := (List.getElem?_eq_some_iff.mp ec).1
  have at_i : (s.e.set i (some ⟨d', true⟩))[i]? = some (some ⟨d', true⟩) := List.getElem?_set_self hi
  have at_j : ∀ j, j ≠ i → (s.e.set i (some ⟨d', true⟩))[j]? = s.e[j]? := fun j h => List.getElem?_set_ne (Ne.symm h)
  have back : ∀ {j : Nat} {cj : Cell}, (s.e.set i (some ⟨d', true⟩))[j]? = some (some cj) → cj.own = true → ∃ c', s.e[j]? = some (some c') ∧ c'.own = true := fun {j cj} h1 h2 => by
    by_cases hj : j = i
    · subst hj; exact ⟨c, ec, ho⟩
    · rw [at_j j hj] at h1; exact ⟨cj, h1, h2⟩
  refine ⟨⟨fun a u e => ?_, g.R.stay I.at_ fun a ha => upd_ne (fun (z : a = p) => nft (by rw [← z]; exact ha)), I.foot, by simpa using I.len, fun j cj ej => ?_, fun j k cj ck a hne ej ek oj ok hj => ?_⟩, ⟨fun a u e n _ => ?_, Le.refl _, fun _ _ _ _ h _ => h, fun a z => ?_, fun a u e => ?_⟩⟩
  · rw [upd_ne (fun z => by rw [z, nF] at e; cases e)]; exact I.sub a u e
  · by_cases hj : j = i
    · subst hj
      rw [show ({ s with e := s.e.set j (some ⟨d', true⟩) } : S g.R.S).e = s.e.set j (some ⟨d', true⟩) from rfl, at_i] at ej
      cases ej
      exact ⟨_, hv, .inr ⟨rfl, p, o', rfl, nF, nft, upd_same, r⟩⟩
    · rw [show ({ s with e := s.e.set i (some ⟨d', true⟩) } : S g.R.S).e = s.e.set i (some ⟨d', true⟩) from rfl, at_j j hj] at ej
      obtain ⟨v, h1, h2⟩ := I.cell j cj ej
      refine ⟨v, h1, ?_⟩
      rcases h2 with h2 | ⟨h2, q, x, r1, r2, r3, r4, r5⟩
      · exact .inl h2
      · refine .inr ⟨h2, q, x, r1, r2, r3, ?_, r5⟩
        rw [upd_ne (fun z => I.apart j i cj c p hj ej ec h2 ho (by rw [h1, r1, z]) hv)]; exact r4
  · obtain ⟨c1, e1, o1⟩ := back ej oj
    obtain ⟨c2, e2, o2⟩ := back ek ok
    exact I.apart j k c1 c2 a hne e1 e2 o1 o2 hj
  · rw [upd_ne (fun z => by rw [z] at n; exact n own)]; exact e
  · obtain ⟨j, cj, h1, h2, h3⟩ := z
    obtain ⟨c1, e1, o1⟩ := back h1 h2
    exact .inl ⟨j, c1, e1, o1, h3⟩
  · by_cases z : a = p
    · subst z; exact ⟨_, upd_same⟩
    · rw [upd_ne z]; exact ⟨u, e⟩
def mMut {R : Type} (i : Nat) (ty : D → Bool) (f : D → List D → Option (D × D)) (ma : M R (List Vr)) : M R Vr := fun s => match s.e[i]? with
  | some (some c) => if ty c.d then (ma s).bind fun p => (escAll p.1 p.2).bind fun q => (match q.2.e[i]? with
    | some (some c) => if c.own then (f c.d q.1).map fun z => (.sh z.1, { q.2 with e := q.2.e.set i (some ⟨z.2, true⟩) }) else none
    | _ => none) else none
  | _ => none
def isLst : D → Bool
  | .lst _ => true
  | _ => false
def isDK : D → Bool
  | .dct false _ => true
  | _ => false
structure MutOk (g : G) (n : Nat) (f : D → List D → Option (D × D)) (r : V → List V → Hp → VK → Prop) : Prop where
  ok : ∀ F H p o d vs ds v d' Q, H p = some o → RepO g F o d → RepAll g F vs ds → vs.length = n → f d ds = some (v, d') → (∀ o' x, RepO g F o' d' → Rep g F x v → Q x (upd H p o')) → r (.ref p) vs H Q
theorem tMut_of {i n : Nat} {T : String} {ty : D → Bool} {f : D → List D → Option (D × D)} {r : V → List V → Hp → VK → Prop} {ma : M g.R.S (List Vr)} (ok : MutOk g n f r) (hty : ∀ F H v d, Sub F H → Pk g F H v d → ty d = true → tyV X.K T v H) {σ : St} {H : Hp} {Q : VK} (h : tM g (mMut i ty f ma) σ H Q) : tBM X.K T r (tVar i) (tMV g n ma) σ H Q := by
  obtain ⟨F, s, res, s', I, e, k⟩ := h
  unfold mMut at e
  split at e
  · rename_i c ec
    split at e
    · rename_i ht
      obtain ⟨p, e1, e⟩ := Option.bind_eq_some_iff.mp e
      obtain ⟨q, e2, e⟩ := Option.bind_eq_some_iff.mp e
      obtain ⟨v, ev, cv⟩ := I.cell i c ec
      have pk0 : Pk g F H v c.d := by
        rcases cv with ⟨_, b⟩ | ⟨_, p, o, b1, _, _, b4, b5⟩
        · exact .inl b
        · exact .inr ⟨p, o, b1, b4, b5⟩
      refine ⟨v, ev, hty F H v c.d I.sub pk0 ht, F, s, p.1, p.2, I, e1, fun F1 vs H1 I1 K1 w1 hl => ?_⟩
      obtain ⟨F2, I2, K2, r2⟩ := escAll_ok I1 w1 e2
      split at e
      · rename_i c2 ec2
        split at e
        · rename_i ho
          obtain ⟨z, e3, e⟩ := Option.map_eq_some_iff.mp e
          cases e
          obtain ⟨v2, ev2, cv2⟩ := I2.cell i c2 ec2
          rw [ev] at ev2; cases ev2
          rcases cv2 with ⟨z0, _⟩ | ⟨_, a, o, rfl, b2, b3, b4, b5⟩
          · rw [ho] at z0; cases z0
          · refine ok.ok F2 H1 a o c2.d vs q.1 z.1 z.2 _ b4 b5 r2 hl e3 fun o' x r3 r4 => ?_
            obtain ⟨I3, K3⟩ := I2.mut ec2 ho ev b4 r3
            exact k F2 x _ I3 ((K1.trans K2 I2).trans K3 I3) r4
        · cases e
      · cases e
    · cases e
  · cases e
theorem ty_lst {F H : Hp} {v : V} {d : D} (s : Sub F H) (p : Pk g F H v d) (h : isLst d = true) : tyV X.K "list" v H := by
  cases d <;> cases h
  obtain ⟨a, xs, rfl, e1, _⟩ := p.lst s
  exact .inl ⟨rfl, xs, SqL.of e1⟩
theorem d_mL {i n : Nat} {f : D → List D → Option (D × D)} {r : V → List V → Hp → VK → Prop} {e : Expr} {ma : M g.R.S (List Vr)} (ok : MutOk g n f r) (h : PE X e (tBM X.K "list" r (tVar i) (tMV g n ma))) : DE g X e (mMut i isLst f ma) :=
  PE.imp h fun _ _ _ q => tMut_of ok (fun _ _ _ _ s p t => ty_lst s p t) q
def appL : D → List D → Option (D × D)
  | .lst xs, [d] => if xs.length < sizeLine then some (.non, .lst (xs ++ [d])) else none
  | _, _ => none
theorem m_app : MutOk g 1 appL rAppend := ⟨fun F H p o d vs ds v d' Q hp r rs hl e n => by
  unfold appL at e
  split at e
  · split at e
    · cases e
      cases r with
      | lst r1 => cases rs with
        | cons a b => cases b; exact ⟨p, _, _, rfl, rfl, hp, by rw [r1.length]; assumption, n _ _ (.lst (r1.append a)) .non⟩
    · cases e
  · cases e⟩
theorem RepAll.erase {F : Hp} : ∀ {xs : List V} {ds : List D} (k : Nat), RepAll g F xs ds → RepAll g F (xs.eraseIdx k) (ds.eraseIdx k)
  | _, _, _, .nil => .nil
  | _, _, 0, .cons a b => b
  | _, _, k + 1, .cons a b => .cons a (RepAll.erase k b)
def putD : D → D → D → Option D
  | .lst xs, .int k, v => (ixN xs.length k).map fun j => .lst (xs.set j v)
  | .dct false es, k, v => (kOf k).bind fun key => if es.length < sizeLine then some (.dct false (putE es (keyD key) v)) else none
  | _, _, _ => none
def mPut {R : Type} (i : Nat) (mk mv : M R Vr) : MS R := fun s => (mv s).bind fun p => (esc (soft p.1) p.2).bind fun q => match q.2.e[i]? with
  | some (some _) => (mk q.2).bind fun r => (pk (soft r.1) r.2).bind fun kd => (match r.2.e[i]? with
    | some (some c) => if c.own then (putD c.d kd q.1).map fun d' => (.nx, { r.2 with e := r.2.e.set i (some ⟨d', true⟩) }) else none
    | _ => none)
  | _ => none
theorem RepAll.set {F : Hp} : ∀ {xs : List V} {ds : List D} (j : Nat) {v : V} {d : D}, RepAll g F xs ds → Rep g F v d → RepAll g F (xs.set j v) (ds.set j d)
  | _, _, _, _, _, .nil, _ => .nil
  | _, _, 0, _, _, .cons a b, h => .cons h b
  | _, _, j + 1, _, _, .cons a b, h => .cons a (RepAll.set j b h)
def putFD (f : Str) (v : D) : List (Str × D) → List (Str × D)
  | [] => [(f, v)]
  | (n, u) :: r => if n = f then (n, v) :: r else (n, u) :: putFD f v r
theorem RepF.put {F : Hp} {f : Str} {v : V} {d : D} (hv : Rep g F v d) : ∀ {fs : List (Str × V)} {ds : List (Str × D)}, RepF g F fs ds → RepF g F (putF f v fs) (putFD f d ds)
  | _, _, .nil => .cons hv .nil
  | _, _, .cons (f := n) h t => by
    unfold putF putFD
    by_cases e : n = f
    · rw [if_pos e, if_pos e]; exact .cons hv t
    · rw [if_neg e, if_neg e]; exact .cons h (RepF.put hv t)
theorem RepF.length {F : Hp} : ∀ {fs : List (Str × V)} {ds : List (Str × D)}, RepF g F fs ds → fs.length = ds.length
  | _, _, .nil => rfl
  | _, _, .cons _ t => by simp [RepF.length t]
def mFld {R : Type} (i c : Nat) (f : Str) (mv : M R Vr) : MS R := fun s => (mv s).bind fun p => (esc (soft p.1) p.2).bind fun q => match q.2.e[i]? with
  | some (some ce) => if ce.own then (match ce.d with
    | .obj c' fs => if c' = c ∧ fs.length < 1000 then some (.nx, { q.2 with e := q.2.e.set i (some ⟨.obj c (putFD f q.1 fs), true⟩) }) else none
    | _ => none) else none
  | _ => none
end
end RW
namespace RW
open PySem L2
def ent (nl : Nat) (ds : List D) : List (Option Cell) := ds.map (fun d => some ⟨d, false⟩) ++ List.replicate (nl - ds.length) none
def fnR {R : Type} (p : Fl × S R) : Option (Vr × R) := match p.1 with
  | .rt (.sh d) => some (.sh d, p.2.r)
  | .rt (.tmp d) => some (.tmp d, p.2.r)
  | .nx => some (.sh .non, p.2.r)
  | _ => none
def fnM {R : Type} (nl : Nat) (ms : MS R) : Fm R := fun ds r => (ms ⟨ent nl ds, r⟩).bind fnR
section
variable {g : G} {F H : Hp}
theorem ent_get {nl : Nat} {ds : List D} {i : Nat} {c : Cell} (e : (ent nl ds)[i]? = some (some c)) : c.own = false ∧ ds[i]? = some c.d := by
  unfold ent at e
  by_cases h : i < ds.length
  · rw [List.getElem?_append_left (by simpa using h), List.getElem?_map] at e
    cases q : ds[i]? with
    | none => rw [q] at e; cases e
    | some d => rw [q] at e; cases e; exact ⟨rfl, rfl⟩
  · rw [List.getElem?_append_right (by simpa using h), List.getElem?_replicate] at e
    split at e <;> cases e
theorem ent_own {nl : Nat} {ds : List D} {σ : St} {a : Addr} (h : Own σ (ent nl ds) a) : False := by
  obtain ⟨i, c, e1, e2, _⟩ := h
  rw [(ent_get e1).1] at e2; cases e2
theorem sim_ent {N : List Str} {vs : List V} {ds : List D} {r : g.R.S} (sub : Sub F H) (at_ : g.R.At r H) (ft : ∀ a, g.R.foot a → F a = none) (rep : RepAll g F vs ds) : Sim g F ⟨ent N.length ds, r⟩ (start N vs) H := by
  have hl := rep.length
  refine ⟨sub, at_, ft, ?_, fun i c e => ?_, fun i j ci cj a _ e1 _ o1 _ _ => ?_⟩
  · show (ent N.length ds).length = (start N vs).length
    unfold ent L2.start
    simp [hl]
  · obtain ⟨h1, h2⟩ := ent_get e
    obtain ⟨v, e3, rv⟩ := rep.get h2
    refine ⟨v, ?_, .inl ⟨h1, rv⟩⟩
    have hi : i < vs.length := (List.getElem?_eq_some_iff.mp e3).1
    unfold L2.start
    rw [List.getElem?_append_left (by simpa using hi), List.getElem?_map, e3]
    rfl
  · rw [(ent_get e1).1] at o1; cases o1
theorem left_of {F' H' : Hp} {nl : Nat} {ds : List D} {r : g.R.S} {σ σ' : St} {s' : S g.R.S} (I : Sim g F' s' σ' H') (k : Keep g F ⟨ent nl ds, r⟩ σ H F' s' σ' H') : Left g F H F' H' s'.r :=
  ⟨I.sub, I.at_, I.foot, k.grow, fun a o h nf => k.heap a o h ent_own nf, fun a o h nt q => k.nof a o h nt q ent_own, k.there⟩
theorem body_ok {N : List Str} {vs : List V} {ms : MS g.R.S} {Q : VK} {n : Nat} {E : XK} (h : spM g n (fnM N.length ms) vs H Q E) : tS g ms { nx := fun _ H' => Q .non H', rt := Q } (start N vs) H := by
  obtain ⟨F, r, ds, res, r', sub, at_, ft, rep, hl, e, k⟩ := h
  obtain ⟨⟨fl, s'⟩, e1, e2⟩ := Option.bind_eq_some_iff.mp e
  refine ⟨F, ⟨ent N.length ds, r⟩, fl, s', sim_ent sub at_ ft rep, e1, ?_⟩
  cases fl with
  | nx =>
    cases e2
    exact fun F' σ' H' I' K' => k F' .non H' (left_of I' K') .non
  | bk => cases e2
  | ct => cases e2
  | rt v =>
    cases v with
    | sl i => cases e2
    | sh d =>
      cases e2
      exact fun F' σ' v H' I' K' x => k F' v H' (left_of I' K') x
    | tmp d =>
      cases e2
      refine fun F' σ' v H' I' K' x => k F' v H' (left_of I' K') ?_
      obtain ⟨p, o, rfl, h0, h1⟩ := x
      exact ⟨p, o, rfl, h0.resolve_left ent_own, h1⟩
theorem sp_len {vs : List V} {mf : Fm g.R.S} {Q : VK} {n : Nat} {E : XK} (h : spM g n mf vs H Q E) : vs.length = n := by
  obtain ⟨F, r, ds, res, r', sub, at_, ft, rep, hl, _⟩ := h
  rw [rep.length, hl]
end
section
variable {g : G} {P : Program} {w : World} {mg : Str → Option Value} {base : Heap} {x qual : Str} {params : Arguments} {body : List Stmt} {scope : Scope} {dvs : List V} {kws : List (Str × V)} {f : Addr} {fd : FuncData}
theorem fn_ok {N ps : List Str} {k : Nat} {ms : MS g.R.S} (sy : SyW g w base) (F : FunD g.K x qual params body scope dvs kws f fd) (S : FnScope N ps scope)
    (hb : ∀ (cdv : Value) (A : Around) (outer : List Env) (s : Shared) (H : Hp), XO g k (cxOf CX0 P w g.K mg base N qual scope f cdv A outer s H E0).nox → DB g (cxOf CX0 P w g.K mg base N qual scope f cdv A outer s H E0).nox body ms) :
    FnG P w g.K mg base (k + 1) f fd ps (spM g ps.length (fnM N.length ms)) :=
  FunD.okG F S (fun _ _ _ _ h => sp_len h) fun cdv A outer s H _ _ hr gd hsp => ⟨tS g ms, (hb cdv A outer s H ⟨rfl, hr, rfl, S.nd, deeper_guards gd, sy⟩).nox, body_ok hsp⟩
end
end RW
namespace RW
open PySem L2
section
variable {g : G} {X : Cx}
def mRest {R : Type} (mf : Fm R) (rs : List Vr) : M R Vr := fun s => (escAll rs s).bind fun z => (mf z.1 z.2.r).bind fun q =>
  match q.1 with
  | .sl _ => none
  | x => some (x, if isAtom x then { s with r := q.2 } else { z.2 with r := q.2 })
abbrev FnP (K : PySem.W.Frag) (x qual : Str) (st : Stmt) (f : Addr) (fd : FuncData) : Prop := FunD K x qual (defArgs st) (defBody st) (defScope st) [] [] f fd
structure Fu (g : G) (P : Program) (w : World) (mg : Str → Option Value) (base : Heap) (k : Nat) (x qual : Str) (st : Stmt) (ps : List Str) (mf : Fm g.R.S) (f : Addr) : Prop where
  ex : ∃ fd, FnP g.K x qual st f fd ∧ FnG P w g.K mg base k f fd ps (spM g ps.length mf) ∧ Binds g.K fd ps []
theorem Fu.mono {P : Program} {w : World} {mg : Str → Option Value} {base : Heap} {j k : Nat} {x qual : Str} {st : Stmt} {ps : List Str} {mf : Fm g.R.S} {f : Addr} (h : Fu g P w mg base j x qual st ps mf f) (hk : j ≤ k) : Fu g P w mg base k x qual st ps mf f := by
  obtain ⟨fd, h1, h2, h3⟩ := h
  exact ⟨fd, h1, h2.mono hk, h3⟩
theorem fu_of {P : Program} {w : World} {mg : Str → Option Value} {base : Heap} {k : Nat} {x qual : Str} {st : Stmt} {N ps : List Str} {ms : MS g.R.S} {f : Addr} (sy : SyW g w base) (F : ∃ fd, FnP g.K x qual st f fd) (S : FnScope N ps (defScope st))
    (bi : ∀ (kV doc pm : Value) (an : Option Addr) (cdv ct : Value) (us : List Value), us.length = ps.length → bindArgs (PySem.W.fnOf x qual (defArgs st) (defBody st) (defScope st) .none kV doc pm an cdv ct) ⟨us, []⟩ = pure (ps.zip us))
    (hb : ∀ (cdv : Value) (A : Around) (outer : List Env) (s : Shared) (H : Hp), XO g k (cxOf CX0 P w g.K mg base N qual (defScope st) f cdv A outer s H E0).nox → DB g (cxOf CX0 P w g.K mg base N qual (defScope st) f cdv A outer s H E0).nox (defBody st) ms) :
    Fu g P w mg base (k + 1) x qual st ps (fnM N.length ms) f := by
  obtain ⟨fd, F⟩ := F
  exact ⟨fd, F, fn_ok sy F S hb, F.bindsN bi⟩
theorem d_callF {k j : Nat} {f : Addr} {ps : List Str} {n : Nat} {mf : Fm g.R.S} {x : Str} {st : Stmt} {p pos : Pos} {e : Expr} {es : List Expr} {ma : M g.R.S (List Vr)} (F : Fu g X.prog X.w X.mg X.base j x x st ps mf f) (o : XO g k X) (hm : X.mg x = some (.ref f))
    (ha : DA g X n (e :: es) ma) (hg : Gl X x := by rfl) (hj : j ≤ k := by decide) (hn : ps.length = n := by rfl) (hdb : (x == ("__debug__" : Str)) = false := by decide) (he : starEach (e :: es) X.env = (false, eval e X.env) :: starEach es X.env := by rfl) (hpl : (backTo pos (starEach es X.env)).any (·.1) = false := by rfl) :
    DE g X (.Call (.Name x p) (e :: es) [] pos) (mCall mf ma) := by
  obtain ⟨fd, h1, h2, h3⟩ := F
  subst hn
  have K := o.K
  rw [← K] at h1 h2 h3
  exact d_call (h2.mono hj) o.rm o.gd hg hm h1.kp h3 ha hdb he hpl
def pickL {α : Type} (is : List Nat) (xs : List α) : List α := is.filterMap fun i => xs[i]?
theorem WAll.get {F : Hp} {σ : St} : ∀ {rs : List Vr} {vs : List V} (i : Nat), WAll g F σ rs vs → (∃ r v, rs[i]? = some r ∧ vs[i]? = some v ∧ WOk g F σ r v) ∨ (rs[i]? = none ∧ vs[i]? = none)
  | [], [], i, _ => .inr ⟨by simp, by simp⟩
  | r :: rs, v :: vs, i, h => by
    cases i with
    | zero => exact .inl ⟨r, v, rfl, rfl, h.1⟩
    | succ i => simpa using WAll.get i h.2
  | [], _ :: _, _, h => h.elim
  | _ :: _, [], _, h => h.elim
def DK (g : G) (X : Cx) (n : Nat) (ks : List Keyword) (m : M g.R.S (List Vr)) : Prop := PK X ks (tMV g n m)
theorem PK.imp {ks : List Keyword} {t t' : TA} (h : PK X ks t) (w : ∀ σ H Q, t' σ H Q → t σ H Q) : PK X ks t' := ⟨fun pos pins s σ H Q I q => h.run pos pins s σ H Q I (w _ _ _ q)⟩
theorem k_nil : DK g X 0 [] (mArgs []) := PK.imp pk_nil fun σ H Q ⟨F, s, rs, s', I, e, k⟩ => by
  cases e
  exact k F [] H I Keep.refl trivial rfl
theorem k_cons {nm : Option Str} {kp : Pos} {e : Expr} {ks : List Keyword} {n : Nat} {m : M g.R.S Vr} {ms : List (M g.R.S Vr)} (ha : DE g X e m) (hr : DK g X n ks (mArgs ms)) : DK g X (n + 1) (⟨nm, e, kp⟩ :: ks) (mArgs (m :: ms)) := by
  refine PK.imp (pk_cons ha hr) fun σ H Q ⟨F, s, rs, s', I, e, k⟩ => ?_
  unfold mArgs at e
  obtain ⟨p, e1, e⟩ := Option.bind_eq_some_iff.mp e
  obtain ⟨q, e2, e⟩ := Option.map_eq_some_iff.mp e
  cases e
  refine tM_soft I e1 fun F1 v H1 I1 K1 w1 => ?_
  refine ⟨F1, _, q.1, q.2, I1, e2, fun F2 vs H2 I2 K2 w2 hl => ?_⟩
  exact k F2 (v :: vs) H2 I2 (K1.trans K2 I2) ⟨w1.keep K2.grow, w2⟩ (by simp [hl])
def mCallK {R : Type} (is : List Nat) (mf : Fm R) (ma : M R (List Vr)) : M R Vr := fun s => (ma s).bind fun p => mRest mf (pickL is p.1) p.2
end
end RW
namespace RW
open PySem L2
section
variable {g : G} {X : Cx}
def mMeth {R : Type} (c : Nat) (m : Str) (mf : Fm R) (ma : M R Vr) (mr : M R (List Vr)) : M R Vr := fun s => (ma s).bind fun p => match pk (soft p.1) p.2 with
  | some (.obj c' fs) => if c' = c ∧ (fs.lookup m).isNone then (mr p.2).bind fun q => mRest mf (soft p.1 :: q.1) q.2 else none
  | _ => none
def mProp {R : Type} (c : Nat) (mf : Fm R) (ma : M R Vr) : M R Vr := fun s => (ma s).bind fun p => match pk (soft p.1) p.2 with
  | some (.obj c' _) => if c' = c then mRest mf [soft p.1] p.2 else none
  | _ => none
end
end RW
namespace RW
open PySem L2
def blkB (N : List Str) (sc scope : Scope) (own : List (Str × Nat)) : Bool :=
  decide (scope.kind = .function) && (scope.names.all (fun y => decide (scope.names.lookup y.1 = some y.2)) && (own.all (fun p => decide (N[p.2]? = some p.1)) &&
    (scope.names.all (fun y => !decide (y.2 = .free) || (decide (sc.names.lookup y.1 = some .cell) || decide (sc.names.lookup y.1 = some .free))) &&
      scope.names.all (fun y => !(decide (y.2 = .local) || decide (y.2 = .cell)) || (decide (y.1 ∈ own.map (·.1)) || decide (y.1 ∉ N))))))
theorem blk_of {N : List Str} {sc scope : Scope} {own : List (Str × Nat)} (h : blkB N sc scope own = true) : BlkOk N sc scope own := by
  unfold blkB at h
  simp only [Bool.and_eq_true, List.all_eq_true, decide_eq_true_eq, Bool.or_eq_true, Bool.not_eq_true', decide_eq_false_iff_not] at h
  obtain ⟨h1, h2, h3, h4, h5⟩ := h
  refine ⟨h1, h2, h3, fun y hy e => ?_, fun y hy e => ?_⟩
  · rcases h4 y hy with z | z
    · exact absurd e z
    · exact z
  · rcases h5 y hy with z | z
    · rcases e with e | e <;> simp [e] at z
    · exact z
end RW
namespace RW
open PySem L2
section
variable {g : G} {X : Cx} {F F' H H' : Hp}
theorem Pk.ext {v : V} {d : D} (p : Pk g F H v d) (x : Ext F H F' H') : Pk g F' H' v d := by
  rcases p with p | ⟨a, o, rfl, e, p⟩
  · exact .inl (p.mono x.le)
  · exact .inr ⟨a, o, rfl, x.heap _ _ e, p.mono x.le⟩
def tyN : D → Option String
  | .non => some "NoneType"
  | .bl _ => some "bool"
  | .int _ => some "int"
  | .str _ => some "str"
  | .lst _ => some "list"
  | .tup _ => some "tuple"
  | .dct false _ => some "dict"
  | _ => none
theorem Pk.ty {v : V} {d : D} {n : String} (h : Sub F H) (p : Pk g F H v d) (e : tyN d = some n) : TyX g.K H v (.type n) := by
  cases d with
  | non => cases e; obtain rfl := p.non; exact .base .non
  | bl b => cases e; obtain rfl := p.bl; exact .base (.bl _)
  | int b => cases e; obtain rfl := p.int; exact .base (.int _)
  | str b => cases e; obtain rfl := p.str; exact .base (.str _)
  | lst b => cases e; obtain ⟨a, xs, rfl, h1, _⟩ := p.lst h; exact .base (.lst h1)
  | tup b =>
    cases e
    obtain ⟨a, xs, rfl, h1, _⟩ := p.tup h
    rcases h1 with (h1 | ⟨ob, h1⟩) | ⟨o, its, n, h1, h2, _⟩
    · exact .base (.tup h1)
    · exact .fTuple h1
    · exact .kTuple h1 h2
  | dct t es =>
    cases t with
    | true => cases e
    | false =>
      cases e
      obtain ⟨a, kvs, rfl, h1, _⟩ := p.dK h
      rcases h1 with h1 | ⟨ob, h1⟩
      · exact .base (.dK h1)
      · exact .fDict h1
  | _ => cases e
def tyL : List String := ["NoneType", "bool", "int", "str", "list", "tuple", "dict"]
theorem tyN_mem {d : D} {n : String} (e : tyN d = some n) : n ∈ tyL := by
  unfold tyN at e
  split at e <;> first | cases e; decide | cases e
theorem boot_isi : bootBuiltins "isinstance" = some (.builtin "isinstance") := by with_unfolding_all rfl
def zipI : List D → Option (List D)
  | [.lst ds, .lst es] => some (zipOf ds es)
  | [.tup ds, .tup es] => some (zipOf ds es)
  | _ => none
def mZip {R : Type} (ma : M R (List Vr)) : M R (List D) := fun s => (ma s).bind fun p => (escAll p.1 p.2).bind fun q => (zipI q.1).map fun ds => (ds, q.2)
end
end RW
set_option maxHeartbeats 4000000
namespace RW.SetTx
open PySem PySem.Spec PyProof.Rows
def ddS (xs : List Str) : List Str := xs.foldl (fun acc x => if acc.any (· == x) then acc else acc ++ [x]) []
section
variable {prog : Program} {w : World} {A : Around}
abbrev Has (prog : Program) (w : World) (h : Heap) (S : Addr) (ys : List Str) : Prop := h.SetOf (PySem.strKind prog w) S (fun k' => ys.any (· == k')) (ddS ys).length
theorem Has.at {h h' : Heap} {S : Addr} {ys : List Str} (R : Has prog w h S ys) (k : ∀ o, h.get? S = some o → h'.get? S = some o) : Has prog w h' S ys :=
  let ⟨o, es, ep, tb, ho, rest⟩ := R
  ⟨o, es, ep, tb, k o ho, rest⟩
end
end RW.SetTx
set_option maxHeartbeats 4000000
set_option maxHeartbeats 4000000
namespace RW
open PySem L2
section
variable {g : G} {X : Cx} {F H : Hp}
def mPairs {R : Type} : List (M R Vr × M R Vr) → M R (List (Key × D))
  | [] => fun s => some ([], s)
  | (mk, mv) :: r => fun s => (mk s).bind fun p => (esc (soft p.1) p.2).bind fun z => (kOf z.1).bind fun key => (mv z.2).bind fun p2 => (esc (soft p2.1) p2.2).bind fun z2 => (mPairs r z2.2).map fun q => ((key, z2.1) :: q.1, q.2)
def mDisp {R : Type} (ms : List (M R Vr × M R Vr)) : M R Vr := fun s => (mPairs ms s).map fun q => (.tmp (.dct false (q.1.foldl (fun acc kv => putE acc (keyD kv.1) kv.2) [])), q.2)
def trsOf (g : G) (ms : List (M g.R.S Vr × M g.R.S Vr)) : List (TE × TE) := ms.map fun m => (tM g m.1, tM g m.2)
def DP (g : G) (X : Cx) (pos : Pos) (ks : List (Option Expr)) (vs : List Expr) (ms : List (M g.R.S Vr × M g.R.S Vr)) : Prop := PPs X pos ks vs (trsOf g ms)
theorem p_nil {pos : Pos} : DP g X pos [] [] [] := pps_nil
theorem p_cons {pos : Pos} {k v : Expr} {ks : List (Option Expr)} {vs : List Expr} {mk mv : M g.R.S Vr} {ms : List (M g.R.S Vr × M g.R.S Vr)} (hk : DE g X k mk) (hv : DE g X v mv) (hr : DP g X pos ks vs ms) : DP g X pos (some k :: ks) (v :: vs) ((mk, mv) :: ms) := pps_cons hk hv hr
theorem tPairs_of {σ : St} : ∀ {ms : List (M g.R.S Vr × M g.R.S Vr)} {F H : Hp} {s s' : S g.R.S} {ks : List (Key × D)} {Q : List (V × V) → Hp → Prop}, Sim g F s σ H → mPairs ms s = some (ks, s') →
    (∀ F' kvs H', Sim g F' s' σ H' → Keep g F s σ H F' s' σ H' → RepK g F' kvs (ks.map fun kv => (keyD kv.1, kv.2)) → kvs.length = ms.length → Q (kvs.map fun kv => (kV kv.1, kv.2)) H') → tPairs (trsOf g ms) σ H Q
  | [], F, H, s, s', ks, Q, I, e, k => by
    cases e
    exact k F [] H I Keep.refl .nil rfl
  | (mk, mv) :: r, F, H, s, s', ks, Q, I, e, k => by
    unfold mPairs at e
    obtain ⟨⟨r1, s1⟩, e1, e⟩ := Option.bind_eq_some_iff.mp e
    obtain ⟨⟨d2, s2⟩, e2, e⟩ := Option.bind_eq_some_iff.mp e
    obtain ⟨key, ek, e⟩ := Option.bind_eq_some_iff.mp e
    obtain ⟨⟨r3, s3⟩, e3, e⟩ := Option.bind_eq_some_iff.mp e
    obtain ⟨⟨d4, s4⟩, e4, e⟩ := Option.bind_eq_some_iff.mp e
    obtain ⟨⟨ks', s5⟩, e5, e⟩ := Option.map_eq_some_iff.mp e
    cases e
    refine tM_esc I e1 e2 fun F1 y H1 I1 K1 w1 => tM_esc I1 e3 e4 fun F2 z H2 I2 K2 w2 => ?_
    refine tPairs_of I2 e5 fun F3 kvs H3 I3 K3 w3 hl => ?_
    have hy : y = kV key := by
      have hd := kOf_some ek
      subst hd
      cases key with
      | inl i => exact Pk.int (H := H1) (.inl w1)
      | inr x => exact Pk.str (H := H1) (.inl w1)
    subst hy
    exact k F3 ((key, z) :: kvs) H3 I3 ((K1.trans K2 I2).trans K3 I3) (.cons (w2.mono K3.grow) w3) (by simp [hl])
theorem RepK.merge {F : Hp} : ∀ {kvs : List (Key × V)} {ks : List (Key × D)} {av : List (Key × V)} {ad : List (D × D)}, RepK g F kvs (ks.map fun kv => (keyD kv.1, kv.2)) → RepK g F av ad → RepK g F (mergeK av kvs) (ks.foldl (fun acc kv => putE acc (keyD kv.1) kv.2) ad)
  | kvs, [], av, ad, h, q => by cases h; exact q
  | kvs, (k, d) :: ks, av, ad, h, q => by
    have h' : RepK g F kvs ((keyD k, d) :: ks.map fun kv => (keyD kv.1, kv.2)) := h
    generalize hz : ks.map (fun kv => (keyD kv.1, kv.2)) = rest at h'
    generalize hk : keyD k = kd at h'
    cases h' with
    | cons hv ht =>
      rename_i k' _ _
      have e : k' = k := by
        cases k <;> cases k' <;> cases hk <;> rfl
      subst e
      subst hz
      exact RepK.merge (ks := ks) (av := putK av k' _) ht (q.put k' hv)
theorem d_disp {pos : Pos} {ks : List (Option Expr)} {vs : List Expr} {ms : List (M g.R.S Vr × M g.R.S Vr)} {k : Nat} (o : XO g k X) (h : DP g X pos ks vs ms) (hall : ks.all (·.isSome) = true := by rfl) (hl : ks.length = vs.length := by rfl) (h0 : ks ≠ [] := by exact fun z => nomatch z) (h15 : ks.length ≤ 15 := by decide) (hm : ms.length ≤ 15 := by exact Nat.le_of_ble_eq_true rfl) :
    DE g X (.Dict ks vs pos) (mDisp ms) := by
  refine PE.imp (pe_disp h hall hl h0 h15) fun σ H Q ⟨F, s, res, s', I, e, kk⟩ p hp => ?_
  unfold mDisp at e
  obtain ⟨⟨kd, s1⟩, e1, e⟩ := Option.map_eq_some_iff.mp e
  cases e
  have x0 : Ext F H F (upd H p (.dK [])) := Ext.tmp I.sub hp
  have ft : ¬ g.R.foot p := I.nofoot hp
  have no0 : ¬ Own σ s.e p := fun z => by
    obtain ⟨o, e, _⟩ := (I.own_at z).2.2
    rw [hp] at e; cases e
  have m0 : MkD g F s.e σ (upd H p (.dK [])) p [] := ⟨upd_same, I.sub.free hp, no0⟩
  refine tPairs_of (I.ext x0) e1 fun F1 kvs H1 I1 K1 w1 hlen => ?_
  have m1 := m0.keep ft K1
  refine ⟨m1.at_, kvs, rfl, by rw [hlen]; exact hm, ?_⟩
  have K01 := (Keep.ext x0).trans K1 I1
  refine kk F1 (.ref p) _ (I1.grow m1.nf m1.no ft) (K01.grow' hp) ⟨p, _, rfl, hp, m1.nf, ft, m1.no, upd_same, .dK (w1.merge .nil)⟩
abbrev Im (R : Type) := List D → R → Option (List (Str × D) × R)
def fnIR {R : Type} (c : Nat) (p : Fl × S R) : Option (List (Str × D) × R) := match p.1, (p.2.e[0]? : Option (Option Cell)) with
  | .nx, some (some (Cell.mk (.obj c' fs) true)) => if c' = c then some (fs, p.2.r) else none
  | _, _ => none
def fnI {R : Type} (c nl : Nat) (ms : MS R) : Im R := fun ds r => (ms ⟨some ⟨.obj c [], true⟩ :: ent (nl - 1) ds, r⟩).bind (fnIR c)
def mMake {R : Type} (c : Nat) (mi : Im R) (ma : M R (List Vr)) : M R Vr := fun s => (ma s).bind fun p => (escAll p.1 p.2).bind fun z => (mi z.1 z.2.r).map fun q => (.tmp (.obj c q.1), { z.2 with r := q.2 })
end
end RW
namespace RW
open PySem L2 PyProof.Rows
mutual
def toPy : D → Option PyData
  | .non => some .none
  | .bl b => some (.bool b)
  | .int i => some (.int i)
  | .str x => some (.str x)
  | .lst ds => (toPyAll ds).map .list
  | .tup ds => (toPyAll ds).map .tuple
  | .dct false es => (toPyKv es).map .dict
  | .dct true _ => none
  | .dcn _ => none
  | .obj _ _ => none
  | .res => none
  | .scr _ => none
  | .err _ _ => none
def toPyAll : List D → Option (List PyData)
  | [] => some []
  | d :: ds => (toPy d).bind fun p => (toPyAll ds).map fun q => p :: q
def toPyKv : List (D × D) → Option (List (PyData × PyData))
  | [] => some []
  | e :: es => (toPy e.1).bind fun k => (toPy e.2).bind fun v => (toPyKv es).map fun q => (k, v) :: q
end
def fitsPy (d : PyData) : Bool := d.showable && (d.leavesShort 13 && (decide (d.weight ≤ 2 ^ 20) && decide (d.depth ≤ 40)))
def reprS (d : D) : Option Str := (toPy d).bind fun p => if fitsPy p then some p.shown else none
def reprD (d : D) : Option Vr := (reprS d).map fun x => .sh (.str x)
section
variable {g : G} {X : Cx} {F H : Hp} {pins : List (Addr × Obj)} {σ : L2.St} {s : Shared}
theorem tracked_ne (I : L2.Inv X pins σ H s) (sy : ∃ u, X.base.get? sysModules = some u) {a : Addr} {o : HO} (h : H a = some o) : a ≠ sysModules := fun z => by
  obtain ⟨u, e⟩ := sy
  rw [z, (I.bs _ _ e).2] at h; cases h
theorem keys_read {h : Heap} {P : Program} {w : World} {F : Hp} : ∀ {es : List DictEntry} {kvs : List (Key × V)} {us : List (Key × Value)} {ds : List (D × D)} {ps : List (PyData × PyData)}, RepK g F kvs ds → Pairs (mixKind P w) es us → KV kvs us → toPyKv ds = some ps → ReadsAll h (es.map (·.key)) (ps.map (·.1)) []
  | es, _, us, _, ps, .nil, hp, hv, e => by
    cases hv
    cases hp
    cases e
    exact .nil
  | es, _, us, _, ps, .cons (k := k) (d := d) hr tr, hp, hv, e => by
    cases hv with
    | cons hkv tv =>
      cases hp with
      | cons hk hv t =>
        rename_i en _
        unfold toPyKv at e
        obtain ⟨pk, e1, e⟩ := Option.bind_eq_some_iff.mp e
        obtain ⟨pv, e2, e⟩ := Option.bind_eq_some_iff.mp e
        obtain ⟨q, e3, e⟩ := Option.map_eq_some_iff.mp e
        cases e
        have rest := keys_read (h := h) tr t tv e3
        have hk' : keyIs k en.key = true := by have z := hkv.1; dsimp only at z; rw [z]; exact hk
        rcases keyIs_shape hk' with ⟨i, t, rfl, ev⟩ | ⟨x, t, rfl, ev⟩
        · cases e1
          rw [List.map_cons, List.map_cons, ev]
          exact .cons (as := []) (.int i t) rest
        · cases e1
          rw [List.map_cons, List.map_cons, ev]
          exact .cons (as := []) (.str x t) rest
variable (I : L2.Inv X pins σ H s) (hS : Sub F H) (hK : X.K = g.K) (sy : ∃ u, X.base.get? sysModules = some u)
include I hS hK sy
mutual
theorem reads_rep : ∀ {v : V} {d : D}, Rep g F v d → ∀ {u : Value} {p : PyData}, RelV v u → toPy d = some p → ∃ as, Reads s.heap u p as ∧ sysModules ∉ as
  | _, _, .non, u, p, r, e => by cases e; cases r; exact ⟨_, .none, by simp⟩
  | _, _, .bl b, u, p, r, e => by cases e; cases r; exact ⟨_, .bool b, by simp⟩
  | _, _, .int i, u, p, r, e => by cases e; obtain ⟨t, rfl⟩ := r; exact ⟨_, .int i t, by simp⟩
  | _, _, .str x, u, p, r, e => by cases e; obtain ⟨t, rfl⟩ := r; exact ⟨_, .str x t, by simp⟩
  | _, _, .ref (a := a) h o, u, p, r, e => by
    obtain rfl : u = Value.ref a := r
    rcases hS _ _ h with z | ⟨_, ob, z⟩
    · exact reads_obj o z (I.hok _ _ z) e
    · exact reads_obj o z (I.hok _ _ z).2 e
  | _, _, .tup (a := a) h o, u, p, r, e => by
    obtain rfl : u = Value.ref a := r
    rename_i xs ds
    have z : H a = some (.tup xs) := by
      rcases hS _ _ h with z | ⟨z, _⟩
      · exact z
      · rcases z with ⟨_, z⟩ | ⟨_, z⟩ | ⟨_, _, _, z⟩ <;> cases z
    obtain ⟨hl, its, rv, ob, e1, e2, n, e3⟩ := I.hok _ _ z
    unfold toPy at e
    obtain ⟨q, e4, e⟩ := Option.map_eq_some_iff.mp e
    cases e
    obtain ⟨as, ra, na⟩ := reads_all o rv e4
    exact ⟨as, .tuple e1 e2 e3 (by simpa using ra), na⟩
  | _, _, .kt (a := a) h o _, u, p, r, e => by
    obtain rfl : u = Value.ref a := r
    obtain ⟨ob, its, n, e1, e2, e3, hl, rv⟩ := h
    unfold toPy at e
    obtain ⟨q, e4, e⟩ := Option.map_eq_some_iff.mp e
    cases e
    obtain ⟨as, ra, na⟩ := reads_all o rv e4
    rw [← hK] at e1
    exact ⟨as, .tuple (I.kIn _ _ e1) e2 e3 ra, na⟩
  | _, _, .res, u, p, r, e => by cases e
  | _, _, .kscr _, u, p, r, e => by cases e
  | _, _, .err0 _, u, p, r, e => by cases e
  | _, _, .errT _ _, u, p, r, e => by cases e
  | _, _, .errD _ _ _ _, u, p, r, e => by cases e
theorem reads_obj : ∀ {o : HO} {d : D}, RepO g F o d → ∀ {a : Addr} {o' : HO} {p : PyData}, H a = some o' → ObjOk X.prog X.w H s.heap a o → toPy d = some p → ∃ as, Reads s.heap (.ref a) p as ∧ sysModules ∉ as
  | _, _, .lst o, a, o', p, z, ok, e => by
    obtain ⟨hl, its, n, rv, e1⟩ := ok
    unfold toPy at e
    obtain ⟨q, e4, e⟩ := Option.map_eq_some_iff.mp e
    cases e
    obtain ⟨as, ra, na⟩ := reads_all o rv e4
    exact ⟨a :: as, .list e1 rfl rfl (by simpa using ra), fun y => by
      rcases List.mem_cons.mp y with y | y
      · exact tracked_ne I sy z y.symm
      · exact na y⟩
  | _, _, .dK o, a, o', p, z, ok, e => by
    obtain ⟨hl, hsys, vs, rv, ob, es, ep, e1, ex, e2, kk, pr, nd⟩ := ok
    unfold toPy at e
    obtain ⟨q, e4, e⟩ := Option.map_eq_some_iff.mp e
    cases e
    have hk := keys_read (h := s.heap) o pr rv e4
    obtain ⟨as, ra, na⟩ := reads_kv o pr rv e4
    refine ⟨a :: [] ++ as, .dict e1 ex.1 e2 hk ra, fun y => ?_⟩
    rcases List.mem_cons.mp (show sysModules ∈ a :: as from y) with y | y
    · exact tracked_ne I sy z y.symm
    · exact na y
  | _, _, .dT _, a, o', p, z, ok, e => by unfold toPy at e; cases e
  | _, _, .dN _, a, o', p, z, ok, e => by unfold toPy at e; cases e
  | _, _, .ins _, a, o', p, z, ok, e => by unfold toPy at e; cases e
  | _, _, .scr, a, o', p, z, ok, e => by unfold toPy at e; cases e
theorem reads_all : ∀ {vs : List V} {ds : List D}, RepAll g F vs ds → ∀ {us : List Value} {ps : List PyData}, Vals vs us → toPyAll ds = some ps → ∃ as, ReadsAll s.heap us ps as ∧ sysModules ∉ as
  | _, _, .nil, us, ps, r, e => by cases e; cases r; exact ⟨[], .nil, by simp⟩
  | _, _, .cons h t, us, ps, r, e => by
    cases r with
    | cons rv rt =>
      unfold toPyAll at e
      obtain ⟨p, e1, e⟩ := Option.bind_eq_some_iff.mp e
      obtain ⟨q, e2, e⟩ := Option.map_eq_some_iff.mp e
      cases e
      obtain ⟨as, ra, na⟩ := reads_rep h rv e1
      obtain ⟨bs, rb, nb⟩ := reads_all t rt e2
      exact ⟨as ++ bs, .cons ra rb, fun y => (List.mem_append.mp y).elim na nb⟩
theorem reads_kv : ∀ {kvs : List (Key × V)} {ds : List (D × D)}, RepK g F kvs ds → ∀ {es : List DictEntry} {us : List (Key × Value)} {ps : List (PyData × PyData)}, Pairs (mixKind X.prog X.w) es us → KV kvs us → toPyKv ds = some ps → ∃ as, ReadsAll s.heap (es.map (·.val)) (ps.map (·.2)) as ∧ sysModules ∉ as
  | _, _, .nil, es, us, ps, pr, r, e => by
    cases r
    cases pr
    cases e
    exact ⟨[], .nil, by simp⟩
  | _, _, .cons h t, es, us, ps, pr, r, e => by
    cases r with
    | cons rv rt =>
      cases pr with
      | cons hk hv tp =>
        unfold toPyKv at e
        obtain ⟨p, e1, e⟩ := Option.bind_eq_some_iff.mp e
        obtain ⟨pv, e2, e⟩ := Option.bind_eq_some_iff.mp e
        obtain ⟨q, e3, e⟩ := Option.map_eq_some_iff.mp e
        cases e
        obtain ⟨as, ra, na⟩ := reads_rep h rv.2 e2
        obtain ⟨bs, rb, nb⟩ := reads_kv t tp rt e3
        rw [List.map_cons, List.map_cons, hv]
        exact ⟨as ++ bs, .cons ra rb, fun y => (List.mem_append.mp y).elim na nb⟩
end
end
section
variable {g : G} {X : Cx}
def rRepr (g : G) : List V → Hp → VK → Prop := fun xs H Q => ∃ v F d x, xs = [v] ∧ Sub F H ∧ Pk g F H v d ∧ reprS d = some x ∧ Q (.str x) H
theorem call_repr {k : Nat} (o : XO g k X) : CallR X (.builtin "repr") (rRepr g) := by
  intro pins s σ H xs us Q I r ⟨v, F, d, x, e, hS, hp, hx, q⟩
  subst e
  obtain ⟨u, rfl, rv⟩ := vals1 r
  unfold reprS at hx
  obtain ⟨p, e1, e2⟩ := Option.bind_eq_some_iff.mp hx
  have hf : fitsPy p = true := by
    cases hf : fitsPy p with
    | true => rfl
    | false => rw [hf] at e2; cases e2
  rw [hf, if_pos rfl] at e2
  cases e2
  unfold fitsPy at hf
  simp only [Bool.and_eq_true, decide_eq_true_eq] at hf
  obtain ⟨f1, f2, f3, f4⟩ := hf
  have hsz : p.shown.length ≤ sizeLine := PyData.shown_fits (B := 13) (by decide) (by decide) f2 f3
  have R : ∃ as, Reads s.heap u p as ∧ sysModules ∉ as := by
    rcases hp with h | ⟨a, ho, rfl, h1, h2⟩
    · exact reads_rep I hS o.K o.sy.1 h rv e1
    · obtain rfl : u = Value.ref a := rv
      exact reads_obj I hS o.K o.sy.1 h2 h1 (I.hok _ _ h1) e1
  obtain ⟨as, R, na⟩ := R
  have fin : ∀ (h' : Heap) (u : Tok) (tk : Nat), (∀ b o, s.heap.get? b = some o → h'.get? b = some o) → EP X pins σ Q (.str p.shown u) { s with heap := h', toks := tk } := fun h' u tk hk => ⟨.str _, H, I.kept hk, ⟨_, rfl⟩, q⟩
  cases u with
  | ref a => exact repr_of_reads' R f1 (fun _ => na) o.gd (by have := o.hu64; omega) (fun _ _ e => e) fin hsz
  | none =>
    cases R
    exact PySem.P.repr_of_none (fin s.heap _ _ fun _ _ e => e)
  | bool b =>
    cases R
    exact PySem.P.repr_of_bool (fin s.heap _ _ fun _ _ e => e)
  | int i t =>
    cases R
    have : (i.natAbs.log2 < 1920) := by unfold PyData.showable at f1; exact of_decide_eq_true f1
    exact PySem.P.repr_of_int this (fin s.heap _ _ fun _ _ e => e)
  | str x t =>
    cases R
    exact PySem.P.repr_of_str (fin s.heap _ _ fun _ _ e => e) hsz
  | _ => cases R
theorem d_repr {k : Nat} {a : Expr} {ma : M g.R.S Vr} {p pos : Pos} (o : XO g k X) (hg : Gl X "repr") (hm : X.mg "repr" = none) (ha : DE g X a ma) (he : starEach [a] X.env = (false, eval a X.env) :: starEach [] X.env := by rfl) : DE g X (.Call (.Name "repr" p) [a] [] pos) (mOp1 reprD ma) := by
  refine d_b1 (call_repr o) ⟨fun x z e i => ?_, fun F H x dx z Q s p e n => ?_⟩ (by decide +kernel) hg hm ha (by decide) (by decide) he rfl
  · unfold reprD at e
    obtain ⟨y, _, rfl⟩ := Option.map_eq_some_iff.mp e
    exact fun z => nomatch z
  · unfold reprD at e
    obtain ⟨y, ey, rfl⟩ := Option.map_eq_some_iff.mp e
    exact ⟨x, F, dx, y, rfl, s, p, ey, n.q s (.str _)⟩
end
end RW
namespace RW
open PySem L2
def R0 : Rsc where
  S := Unit
  ad := 0
  foot := fun _ => False
  At := fun _ _ => True
  stay := fun _ _ => trivial
  there := fun _ h => h.elim
structure Dr where
  great : List Int
  rest : Int
  cells : List Int
  turn : Int
def drKvs (ga ca : Addr) (r : Dr) : List (Key × V) := [(.inr "great", .ref ga), (.inr "rest", .int r.rest), (.inr "cells", .ref ca), (.inr "turn", .int r.turn)]
def DrAt (ad ga ca : Addr) (r : Dr) (H : Hp) : Prop := H ad = some (.dK (drKvs ga ca r)) ∧ H ga = some (.lst (r.great.map V.int)) ∧ H ca = some (.lst (r.cells.map V.int))
def drawR (ad ga ca : Addr) : Rsc where
  S := Dr
  ad := ad
  foot := fun a => a = ad ∨ a = ga ∨ a = ca
  At := DrAt ad ga ca
  stay := fun ⟨h1, h2, h3⟩ h => ⟨by rw [h _ (.inl rfl)]; exact h1, by rw [h _ (.inr (.inl rfl))]; exact h2, by rw [h _ (.inr (.inr rfl))]; exact h3⟩
  there := fun ⟨h1, h2, h3⟩ h => by
    rcases h with rfl | rfl | rfl
    · exact ⟨_, h1, fun _ z => nomatch z⟩
    · exact ⟨_, h2, fun _ z => nomatch z⟩
    · exact ⟨_, h3, fun _ z => nomatch z⟩
def gD (w : World) (K : PySem.W.Frag) (cls : Nat → Addr) (ad ga ca : Addr) : G := ⟨K, cls, drawR ad ga ca, w⟩
def g0 (w : World) (K : PySem.W.Frag) (cls : Nat → Addr) : G := ⟨K, cls, R0, w⟩
theorem Sim.res {g : G} {F : Hp} {s : S g.R.S} {σ : St} {H H' : Hp} {r' : g.R.S} (I : Sim g F s σ H) (h : ∀ a, ¬ g.R.foot a → H' a = H a) (at_ : g.R.At r' H') : Sim g F { s with r := r' } σ H' ∧ Keep g F s σ H F { s with r := r' } σ H' := by
  refine ⟨⟨fun a o e => ?_, at_, I.foot, I.len, fun i c e => ?_, I.apart⟩, ⟨fun a o e _ nf => by rw [h a nf]; exact e, Le.refl _, fun _ _ _ _ z _ => z, fun _ z => .inl z, fun a o e => ?_⟩⟩
  · have nf : ¬ g.R.foot a := fun z => by rw [I.foot a z] at e; cases e
    rw [h a nf]; exact I.sub a o e
  · obtain ⟨v, e1, q⟩ := I.cell i c e
    refine ⟨v, e1, ?_⟩
    rcases q with q | ⟨a, p, o, b1, b2, b3, b4, b5⟩
    · exact .inl q
    · exact .inr ⟨a, p, o, b1, b2, b3, by rw [h p b3]; exact b4, b5⟩
  · by_cases nf : g.R.foot a
    · obtain ⟨o', e', _⟩ := g.R.there at_ nf
      exact ⟨o', e'⟩
    · exact ⟨o, by rw [h a nf]; exact e⟩
section
variable {w : World} {K : PySem.W.Frag} {cls : Nat → Addr} {ad ga ca : Addr} {X : Cx}
theorem Sim.isRes {g : G} {F : Hp} {s : S g.R.S} {σ : St} {H : Hp} (I : Sim g F s σ H) {b : Bool} {i : Nat} (e : s.e[i]? = some (some ⟨.res, b⟩)) : σ[i]? = some (some (.ref g.R.ad)) := by
  obtain ⟨v, e1, q⟩ := I.cell i _ e
  rw [e1]
  rcases q with ⟨_, q⟩ | ⟨_, p, o, _, _, _, _, q⟩
  · cases q with
    | res => rfl
    | ref _ z => cases z
  · cases q
def isRes {R : Type} (i : Nat) (s : S R) : Bool := match s.e[i]? with
  | some (some ⟨.res, _⟩) => true
  | _ => false
theorem isRes_e {R : Type} {i : Nat} {s : S R} (h : isRes i s = true) : ∃ b, s.e[i]? = some (some ⟨.res, b⟩) := by
  unfold isRes at h
  split at h
  · exact ⟨_, by assumption⟩
  · cases h
def mRG (i : Nat) (f : Dr → Int) : M Dr Vr := fun s => if isRes i s then some (.sh (.int (f s.r)), s) else none
theorem r_get {i : Nat} {x k : Str} {f : Dr → Int} {np cp pos : Pos} {lv : Nat} {j} (o : XO (gD w K cls ad ga ca) lv X) (hv : PE X (.Name x np) (tVar i)) (hf : ∀ r, valV (drKvs ga ca r) (.inr k) = some (.int (f r))) :
    DE (gD w K cls ad ga ca) X (.Subscript (.Name x np) (.Constant (.str k) j cp) pos) (mRG i f) := by
  refine PE.imp (pe_dget o.hu hv pe_str (fun _ _ => rfl)) fun σ H Q ⟨F, s, res, s', I, e, kk⟩ => ?_
  unfold mRG at e
  split at e
  · rename_i h
    cases e
    obtain ⟨b, hb⟩ := isRes_e h
    refine ⟨_, I.isRes hb, ad, .int (f s.r), rfl, .inl ⟨_, .inr k, .inl I.at_.1, rfl, (hf _).symm⟩, kk F _ H I Keep.refl (.int _)⟩
  · cases e
def mRP (i : Nat) (f : Dr → Int → Dr) (me : M Dr Vr) : MS Dr := fun s => (me s).bind fun p => match p.1 with
  | .sh (.int n) => if isRes i p.2 then some (.nx, { p.2 with r := f p.2.r n }) else none
  | _ => none
theorem r_put {i : Nat} {x k : Str} {f : Dr → Int → Dr} {me : M Dr Vr} {e : Expr} {np cp tpos pos : Pos} {lv : Nat} {j} (o : XO (gD w K cls ad ga ca) lv X) (hv : PE X (.Name x np) (tVar i)) (he : DE (gD w K cls ad ga ca) X e me)
    (hf : ∀ r n, putK (drKvs ga ca r) (.inr k) (.int n) = drKvs ga ca (f r n) ∧ (f r n).great = r.great ∧ (f r n).cells = r.cells)
    (hs : swapsWith e (some (.Subscript (.Name x np) (.Constant (.str k) j cp) tpos)) pos.line X.env = pure false := by rfl) :
    DS (gD w K cls ad ga ca) X (.Assign [.Subscript (.Name x np) (.Constant (.str k) j cp) tpos] e pos) (mRP i f me) := by
  refine PS.imp (ps_dput o.hu hv pe_str he hs) fun E σ H ⟨F, s, fl, s', I, e, ou⟩ => ?_
  unfold mRP at e
  obtain ⟨p, e1, e⟩ := Option.bind_eq_some_iff.mp e
  split at e
  · rename_i n hp
    split at e
    · rename_i h
      cases e
      obtain ⟨b, hb⟩ := isRes_e h
      refine ⟨F, s, p.1, p.2, I, e1, fun F1 v H1 I1 K1 r1 => ?_⟩
      rw [hp] at r1
      have r1 : Rep (gD w K cls ad ga ca) F1 v (.int n) := r1
      have hvn : v = .int n := by
        cases r1 with
        | int => rfl
        | ref _ z => cases z
      subst hvn
      obtain ⟨a1, a2, a3⟩ := I1.at_
      refine ⟨_, I1.isRes hb, ad, _, rfl, .inl ⟨_, .inr k, a1, rfl, (by show 4 < sizeLine; decide), rfl⟩, ?_⟩
      have n1 : ga ≠ ad := ne_of a2 a1 (fun z => nomatch z)
      have n2 : ca ≠ ad := ne_of a3 a1 (fun z => nomatch z)
      obtain ⟨f1, f2, f3⟩ := hf p.2.r n
      obtain ⟨I2, K2⟩ := I1.res (H' := upd H1 ad (.dK (putK (drKvs ga ca p.2.r) (.inr k) (.int n)))) (r' := f p.2.r n) (fun a na => upd_ne fun z => na (.inl z))
        ⟨by rw [upd_same, f1], by rw [upd_ne n1, f2]; exact a2, by rw [upd_ne n2, f3]; exact a3⟩
      exact ou F1 σ _ I2 (K1.trans K2 I2)
    · cases e
  · cases e
def mRB (i : Nat) (f : Dr → Bool) : M Dr Vr := fun s => if isRes i s then some (.sh (.bl (f s.r)), s) else none
theorem repAll_ints {g : G} {F : Hp} : ∀ ns : List Int, RepAll g F (ns.map V.int) (ns.map D.int)
  | [] => .nil
  | _ :: ns => .cons (.int _) (repAll_ints ns)
theorem deq_nil (ns : List Int) : deqF 60 (.lst (ns.map D.int)) (.lst []) = some (decide (ns = [])) := by
  cases ns with
  | nil => rfl
  | cons n ns => simp [deqF, toV]
theorem r_great {i : Nat} {x : Str} {np cp pos lp cpos : Pos} {lv : Nat} {j} (o : XO (gD w K cls ad ga ca) lv X) (hv : PE X (.Name x np) (tVar i)) :
    DT (gD w K cls ad ga ca) X (.Compare (.Subscript (.Name x np) (.Constant (.str "great") j cp) pos) [.NotEq] [.List [] lp] cpos) (mRB i fun r => !decide (r.great = [])) := by
  refine PT.imp (pt_cmpR (op_neL o) (pe_dget o.hu hv pe_str (fun _ _ => rfl)) (pe_lst pa_nil) rfl) fun σ H Q ⟨F, s, b, s', I, e, kk⟩ => ?_
  unfold mRB at e
  split at e
  · rename_i h
    cases e
    obtain ⟨b, hb⟩ := isRes_e h
    obtain ⟨a1, a2, a3⟩ := I.at_
    refine ⟨_, I.isRes hb, ad, .ref ga, rfl, .inl ⟨_, .inr "great", .inl a1, rfl, rfl⟩, (by show 0 ≤ sizeLine; exact Nat.zero_le _), fun p hp => ?_⟩
    have x0 : Ext F H F (upd H p (.lst [])) := Ext.tmp I.sub hp
    refine ⟨F, .lst (s.r.great.map D.int), .lst [], decide (s.r.great = []), x0.sub, .inr ⟨ga, _, rfl, x0.heap _ _ a2, .lst (repAll_ints _)⟩, .inr ⟨p, _, rfl, upd_same, .lst .nil⟩, deq_nil _, _, rfl, ?_⟩
    exact kk F _ (I.ext x0) (Keep.ext x0)
  · cases e
def mRPop (same : Bool) (i : Nat) : M Dr Vr := fun s => if isRes i s then (match s.r.great with
  | n :: ns => some (.sh (.int n), { s with r := { s.r with great := ns, cells := if same then ns else s.r.cells } })
  | [] => none) else none
theorem r_pop {i : Nat} {x : Str} {np cp pos apos ip cpos : Pos} {lv : Nat} {j j'} (o : XO (gD w K cls ad ga ca) lv X) (hv : PE X (.Name x np) (tVar i))
    (hbase : attributeBase (.Subscript (.Name x np) (.Constant (.str "great") j cp) pos) "pop" X.env (eval (.Subscript (.Name x np) (.Constant (.str "great") j cp) pos) X.env) = eval (.Subscript (.Name x np) (.Constant (.str "great") j cp) pos) X.env := by rfl)
    (hline : (apos.endLine == cpos.line) = true := by rfl) :
    DE (gD w K cls ad ga ca) X (.Call (.Attribute (.Subscript (.Name x np) (.Constant (.str "great") j cp) pos) "pop" apos) [.Constant (.int 0) j' ip] [] cpos) (mRPop (decide (ga = ca)) i) := by
  refine PE.imp (pe_bm PySem.F.plainAttrs_list PySem.F.slot_list_pop PySem.F.type_list_pop mt_popAt (pe_dget o.hu hv pe_str (fun _ _ => rfl)) (pa_cons pe_int pa_nil) (hbase := hbase) (hline := hline)) fun σ H Q ⟨F, s, res, s', I, e, kk⟩ => ?_
  unfold mRPop at e
  split at e
  · rename_i h
    split at e
    · rename_i n ns hg
      cases e
      obtain ⟨b, hb⟩ := isRes_e h
      obtain ⟨a1, a2, a3⟩ := I.at_
      have a2' : H ga = some (.lst (s.r.great.map V.int)) := a2
      rw [hg] at a2'
      refine ⟨_, I.isRes hb, ad, .ref ga, rfl, .inl ⟨_, .inr "great", .inl a1, rfl, rfl⟩, .inl ⟨rfl, _, SqL.of a2⟩, ?_⟩
      refine ⟨ga, (n :: ns).map V.int, 0, 0, .int n, rfl, rfl, a2', by decide, by decide, ?_, rfl, ?_⟩
      · simp [seqIndex?]
      · have n1 : ad ≠ ga := ne_of a1 a2 (fun z => nomatch z)
        obtain ⟨I2, K2⟩ := I.res (H' := upd H ga (.lst (((n :: ns).map V.int).eraseIdx 0))) (r' := { s.r with great := ns, cells := if decide (ga = ca) then ns else s.r.cells }) (fun a na => upd_ne fun z => na (.inr (.inl z)))
          ⟨by rw [upd_ne n1]; exact a1, upd_same, by
            by_cases z : ga = ca
            · rw [if_pos (decide_eq_true z), ← z]; exact upd_same
            · rw [if_neg (by simpa using z), upd_ne (Ne.symm z)]; exact a3⟩
        exact kk F _ _ I2 K2 (.int _)
    · cases e
  · cases e
def drD (r : Dr) : D := .dct false [(.str "great", .lst (r.great.map .int)), (.str "rest", .int r.rest), (.str "cells", .lst (r.cells.map .int)), (.str "turn", .int r.turn)]
def frzC (r : Dr) : Option Cell → Option Cell
  | some ⟨.res, _⟩ => some ⟨drD r, false⟩
  | some ⟨.int n, false⟩ => some ⟨.int n, false⟩
  | _ => none
def mFrz (m : MS Unit) : MS Dr := fun s => match m ⟨s.e.map (frzC s.r), ()⟩ with
  | some (.rt (.sh (.int n)), s') => some (.rt (.sh (.int n)), ⟨s'.e.map fun _ => none, s.r⟩)
  | _ => none
theorem b_frz {sts : List Stmt} {m : MS Unit} (h : DB (g0 w K cls) X sts m) : DB (gD w K cls ad ga ca) X sts (mFrz m) := by
  refine PSs.imp h fun E σ H ⟨F, s, fl, s', I, e, ou⟩ => ?_
  unfold mFrz at e
  split at e
  · rename_i n s1 em
    cases e
    obtain ⟨a1, a2, a3⟩ := I.at_
    let F0 : Hp := fun a => if a = ad ∨ a = ga ∨ a = ca then H a else none
    have f1 : F0 ad = some (.dK (drKvs ga ca s.r)) := by show (if _ then _ else _) = _; rw [if_pos (.inl rfl)]; exact a1
    have f2 : F0 ga = some (.lst (s.r.great.map V.int)) := by show (if _ then _ else _) = _; rw [if_pos (.inr (.inl rfl))]; exact a2
    have f3 : F0 ca = some (.lst (s.r.cells.map V.int)) := by show (if _ then _ else _) = _; rw [if_pos (.inr (.inr rfl))]; exact a3
    have sub0 : Sub F0 H := fun a o e => by
      have e : (if a = ad ∨ a = ga ∨ a = ca then H a else none) = some o := e
      split at e
      · exact .inl e
      · cases e
    have rD : Rep (g0 w K cls) F0 (.ref ad) (drD s.r) := .ref f1 (.dK (.cons (k := .inr "great") (.ref f2 (.lst (repAll_ints _))) (.cons (k := .inr "rest") (.int _) (.cons (k := .inr "cells") (.ref f3 (.lst (repAll_ints _))) (.cons (k := .inr "turn") (.int _) .nil)))))
    have cells : ∀ (i : Nat) (c : Cell), (s.e.map (frzC s.r))[i]? = some (some c) → c.own = false ∧ ∃ v, σ[i]? = some (some v) ∧ Rep (g0 w K cls) F0 v c.d := fun i c ec => by
      rw [List.getElem?_map] at ec
      cases q : s.e[i]? with
      | none => rw [q] at ec; cases ec
      | some oc =>
        rw [q] at ec
        have ec : frzC s.r oc = some c := Option.some.inj ec
        unfold frzC at ec
        split at ec
        · cases ec
          exact ⟨rfl, _, I.isRes q, rD⟩
        · cases ec
          obtain ⟨v, e1, z⟩ := I.cell i _ q
          refine ⟨rfl, v, e1, ?_⟩
          rcases z with ⟨_, z⟩ | ⟨z, _⟩
          · cases z with
            | int => exact .int _
            | ref _ z => cases z
          · cases z
        · cases ec
    have no0 : ∀ a, ¬ Own σ (s.e.map (frzC s.r)) a := fun a ⟨i, c, h1, h2, _⟩ => by
      rw [(cells i c h1).1] at h2; cases h2
    have I0 : Sim (g0 w K cls) F0 ⟨s.e.map (frzC s.r), ()⟩ σ H := by
      refine ⟨sub0, trivial, fun _ z => z.elim, by rw [List.length_map]; exact I.len, fun i c ec => ?_, fun i j ci cj a _ e1 _ o1 _ _ => ?_⟩
      · obtain ⟨h1, v, h2, h3⟩ := cells i c ec
        exact ⟨v, h2, .inl ⟨h1, h3⟩⟩
      · rw [(cells i ci e1).1] at o1; cases o1
    refine ⟨F0, _, _, s1, I0, em, fun F' σ' v H' I' K' r' => ?_⟩
    have keep : ∀ a o, H a = some o → H' a = some o := fun a o e => K'.heap a o e (no0 a) (fun z => z)
    have r' : Rep (g0 w K cls) F' v (.int n) := r'
    have hv : v = .int n := by
      cases r' with
      | int => rfl
      | ref _ z => cases z
    subst hv
    have nc : ∀ (i : Nat) (c : Cell), (s1.e.map fun _ => (none : Option Cell))[i]? ≠ some (some c) := fun i c z => by
      rw [List.getElem?_map] at z
      cases q : s1.e[i]? with
      | none => rw [q] at z; cases z
      | some _ => rw [q] at z; cases z
    refine ou F σ' (.int n) H' ⟨fun a o e => ?_, ?_, I.foot, by rw [List.length_map]; exact I'.len, fun i c z => (nc i c z).elim, fun i j ci cj a _ e1 _ _ _ _ => (nc i ci e1).elim⟩ ⟨fun a o e _ _ => keep a o e, Le.refl _, fun _ _ _ _ z _ => z, fun a ⟨i, c, z, _⟩ => (nc i c z).elim, fun a o e => ⟨o, keep a o e⟩⟩ (.int _)
    · rcases I.sub a o e with z | ⟨z, ob, z2⟩
      · exact .inl (keep a o z)
      · exact .inr ⟨z, ob, keep a _ z2⟩
    · exact ⟨keep _ _ a1, keep _ _ a2, keep _ _ a3⟩
  · cases e
end
end RW
namespace RW
open PySem L2 PyProof.Rows
theorem ints_of {g : G} {F : Hp} : ∀ {xs : List V} {ns : List Int}, RepAll g F xs (ns.map D.int) → xs = ns.map V.int
  | [], [], _ => rfl
  | x :: xs, n :: ns, h => by
    cases h with
    | cons h t =>
      have e : x = .int n := by
        cases h with
        | int => rfl
        | ref _ z => cases z
      rw [e, ints_of t]; rfl
theorem Rep.ints {g : G} {F : Hp} {v : V} {ns : List Int} (h : Rep g F v (.lst (ns.map D.int))) : ∃ a, v = .ref a ∧ F a = some (.lst (ns.map V.int)) := by
  obtain ⟨a, xs, rfl, e, r⟩ := h.lstIn
  rw [ints_of r] at e
  exact ⟨a, rfl, e⟩
theorem RepK.inv {g : G} {F : Hp} {kvs : List (Key × V)} {e : D × D} {es : List (D × D)} (h : RepK g F kvs (e :: es)) : ∃ k v kvs', kvs = (k, v) :: kvs' ∧ e.1 = keyD k ∧ Rep g F v e.2 ∧ RepK g F kvs' es := by
  cases h with
  | cons h t => exact ⟨_, _, _, rfl, rfl, h, t⟩
theorem keyD_str {k : Key} {x : Str} (z : D.str x = keyD k) : k = .inr x := by
  cases k with
  | inl i => cases z
  | inr y => cases z; rfl
theorem dr_of {g : G} {F : Hp} {o : HO} {r : Dr} (h : RepO g F o (drD r)) : ∃ ga ca, o = .dK (drKvs ga ca r) ∧ F ga = some (.lst (r.great.map V.int)) ∧ F ca = some (.lst (r.cells.map V.int)) := by
  unfold drD at h
  cases h with
  | dK h =>
    obtain ⟨k1, v1, l1, rfl, q1, h1, h⟩ := h.inv
    obtain ⟨k2, v2, l2, rfl, q2, h2, h⟩ := h.inv
    obtain ⟨k3, v3, l3, rfl, q3, h3, h⟩ := h.inv
    obtain ⟨k4, v4, l4, rfl, q4, h4, h⟩ := h.inv
    cases h
    have z1 := keyD_str q1
    have z2 := keyD_str q2
    have z3 := keyD_str q3
    have z4 := keyD_str q4
    subst z1 z2 z3 z4
    obtain ⟨ga, rfl, f1⟩ := Rep.ints h1
    obtain ⟨ca, rfl, f3⟩ := Rep.ints h3
    have w2 : v2 = .int r.rest := by
      cases h2 with
      | int => rfl
      | ref _ z => cases z
    have w4 : v4 = .int r.turn := by
      cases h4 with
      | int => rfl
      | ref _ z => cases z
    subst w2 w4
    exact ⟨ga, ca, rfl, f1, f3⟩
def scrF (v : V) (H : Hp) : Hp := fun b => if v = .ref b then (match H b with
  | some (.frz o u) => some (.frz o u)
  | _ => none) else none
theorem scr_rep {g g' : G} (hK : g'.K = g.K) {F H : Hp} {v : V} {ns : List Int} (hS : Sub F H) (h : Rep g F v (.scr ns)) : Rep g' (scrF v H) v (.scr ns) := by
  cases h with
  | kscr h => exact .kscr (by rw [hK]; exact h)
  | ref e h =>
    cases h with
    | scr =>
      rename_i a o
      have e : H a = some (.frz o (.lst (ns.map V.int))) := by
        rcases hS _ _ e with z | ⟨z, _⟩
        · exact z
        · rcases z with ⟨_, z⟩ | ⟨_, z⟩ | ⟨_, _, _, z⟩ <;> cases z
      refine .ref (o := .frz o (.lst (ns.map V.int))) ?_ .scr
      unfold scrF
      rw [if_pos rfl, e]
def lawE (nl : Nat) (ns : List Int) (d : Option Cell) : List (Option Cell) := some ⟨.scr ns, false⟩ :: d :: List.replicate nl none
section
variable {w : World} {K : PySem.W.Frag} {cls : Nat → Addr} {X : Cx}
theorem law_rest {nl : Nat} {ns : List Int} {r : Dr} {m2 : Bool → MS Dr} {F : Hp} {σ : L2.St} {H : Hp} {E : Ends} (I : Sim (g0 w K cls) F ⟨lawE nl ns (some ⟨drD r, true⟩), ()⟩ σ H)
    (h2 : ∀ b, ∃ s', m2 b ⟨lawE nl ns (some ⟨.res, false⟩), r⟩ = some (.rt (.sh (.bl true)), s')) (ok : ∀ H', E.rt (.bl true) H') : ∃ ad ga ca, tS (gD w K cls ad ga ca) (m2 (decide (ga = ca))) E σ H := by
  obtain ⟨v0, e0, q0⟩ := I.cell 0 ⟨.scr ns, false⟩ rfl
  obtain ⟨v1, e1, q1⟩ := I.cell 1 ⟨drD r, true⟩ rfl
  rcases q1 with ⟨z, _⟩ | ⟨_, ad, o, rfl, nF, _, hH, rO⟩
  · cases z
  have r0 : Rep (g0 w K cls) F v0 (.scr ns) := by
    rcases q0 with ⟨_, r0⟩ | ⟨z, _⟩
    · exact r0
    · cases z
  obtain ⟨ga, ca, rfl, f1, f3⟩ := dr_of rO
  have nd : ∀ xs : List V, ¬ IsDict (.lst xs) := fun xs z => by rcases z with ⟨_, z⟩ | ⟨_, z⟩ | ⟨_, _, _, z⟩ <;> cases z
  have h1 : H ga = some (.lst (r.great.map V.int)) := (I.sub _ _ f1).resolve_right fun z => nd _ z.1
  have h3 : H ca = some (.lst (r.cells.map V.int)) := (I.sub _ _ f3).resolve_right fun z => nd _ z.1
  obtain ⟨s', hm⟩ := h2 (decide (ga = ca))
  refine ⟨ad, ga, ca, scrF v0 H, ⟨lawE nl ns (some ⟨.res, false⟩), r⟩, _, s', ⟨fun a u e => ?_, ⟨hH, h1, h3⟩, fun a ha => ?_, I.len, fun i c ec => ?_, fun i j ci cj a _ ei _ oi _ _ => ?_⟩, hm, fun F' σ' v H' _ _ rv => ?_⟩
  · unfold scrF at e
    split at e
    · split at e
      · cases e; left; assumption
      · cases e
    · cases e
  · unfold scrF
    split
    · split
      · rename_i q
        rcases ha with rfl | rfl | rfl
        · rw [hH] at q; cases q
        · rw [h1] at q; cases q
        · rw [h3] at q; cases q
      · rfl
    · rfl
  · match i, ec with
    | 0, ec => cases ec; exact ⟨v0, e0, .inl ⟨rfl, scr_rep (g := g0 w K cls) (g' := gD w K cls ad ga ca) rfl I.sub r0⟩⟩
    | 1, ec => cases ec; exact ⟨_, e1, .inl ⟨rfl, .res⟩⟩
    | i + 2, ec =>
      have ec : (List.replicate nl (none : Option Cell))[i]? = some (some c) := ec
      rw [List.getElem?_replicate] at ec
      split at ec <;> cases ec
  · match i, ei with
    | 0, ei => cases ei; cases oi
    | 1, ei => cases ei; cases oi
    | i + 2, ei =>
      have ei : (List.replicate nl (none : Option Cell))[i]? = some (some ci) := ei
      rw [List.getElem?_replicate] at ei
      split at ei <;> cases ei
  · have rv : Rep (gD w K cls ad ga ca) F' v (.bl true) := rv
    have : v = .bl true := by
      cases rv with
      | bl => rfl
      | ref _ z => cases z
    rw [this]; exact ok H'
def spLaw (K : PySem.W.Frag) (n : Nat) : Sp := fun vs H Q _ => ∃ (a : Addr) (ns : List Int), vs = [.ref a] ∧ ns.length ≤ n ∧ Only H ∧ SqL K H a (ns.map V.int) ∧ ∀ H', Q (.bl true) H'
theorem law_ok {P : Program} {w : World} {mg : Str → Option Value} {base : Heap} {k nl n : Nat} {st1 : Stmt} {rest : List Stmt} {N2 : List Str} {xd qual : Str} {params : Arguments} {scope : Scope} {f : Addr} {fd : FuncData} {m1 : MS Unit} {m2 : Bool → MS Dr}
    (sy : ∃ u, base.get? sysModules = some u) (F : FunD K "law" qual params (st1 :: rest) scope [] [] f fd) (S : FnScope ("script" :: xd :: N2) ["script"] scope) (hn : N2.length = nl)
    (hb1 : ∀ (cdv : Value) (A : Around) (outer : List Env) (s : Shared) (H : Hp), XO (g0 w K cls) k (cxOf CX0 P w K mg base ("script" :: xd :: N2) qual scope f cdv A outer s H E0).nox → DS (g0 w K cls) (cxOf CX0 P w K mg base ("script" :: xd :: N2) qual scope f cdv A outer s H E0).nox st1 m1)
    (hb2 : ∀ (ad ga ca : Addr) (cdv : Value) (A : Around) (outer : List Env) (s : Shared) (H : Hp), XO (gD w K cls ad ga ca) k (cxOf CX0 P w K mg base ("script" :: xd :: N2) qual scope f cdv A outer s H E0).nox → DB (gD w K cls ad ga ca) (cxOf CX0 P w K mg base ("script" :: xd :: N2) qual scope f cdv A outer s H E0).nox rest (m2 (decide (ga = ca))))
    (h1 : ∀ ns : List Int, ns.length ≤ n → ∃ r, m1 ⟨lawE nl ns none, ()⟩ = some (.nx, ⟨lawE nl ns (some ⟨drD r, true⟩), ()⟩))
    (h2 : ∀ (ns : List Int) (b : Bool) (r : Dr), ns.length ≤ n → ∃ s', m2 b ⟨lawE nl ns (some ⟨.res, false⟩), r⟩ = some (.rt (.sh (.bl true)), s')) :
    FnG P w K mg base (k + 1) f fd ["script"] (spLaw K n) := by
  refine FunD.okG F S (fun vs H Q E ⟨a, ns, e, _⟩ => by rw [e]; rfl) fun cdv A outer s H vs Q hr gd hsp => ?_
  refine ⟨tSeq (tS (g0 w K cls) m1) (fun E σ H => ∃ ad ga ca, tS (gD w K cls ad ga ca) (m2 (decide (ga = ca))) E σ H), PSs.nox (pss_cons (hb1 cdv A outer s H ⟨rfl, hr, rfl, S.nd, deeper_guards gd, ⟨sy, rfl⟩⟩) ⟨fun pins s' σ' H' E' I' ⟨ad, ga, ca, q⟩ => (hb2 ad ga ca cdv A outer s H ⟨rfl, hr, rfl, S.nd, deeper_guards gd, ⟨sy, rfl⟩⟩).run pins s' σ' H' E' I' q⟩), ?_⟩
  obtain ⟨a, ns, rfl, hlen, hO, hS, hQ⟩ := hsp
  obtain ⟨r, e1⟩ := h1 ns hlen
  let F0 : Hp := fun b => if b = a then H a else none
  have rep : Rep (g0 w K cls) F0 (.ref a) (.scr ns) := by
    rcases hS with (z | ⟨o, z⟩) | z
    · rcases hO a with q | ⟨_, _, q⟩ <;> (rw [z] at q; cases q)
    · exact .ref (show F0 a = some _ by show (if a = a then H a else none) = _; rw [if_pos rfl]; exact z) .scr
    · exact .kscr fun H => .inr z
  have I : Sim (g0 w K cls) F0 ⟨lawE nl ns none, ()⟩ (L2.start ("script" :: xd :: N2) [.ref a]) H := by
    have := sim_ent (g := g0 w K cls) (F := F0) (H := H) (N := "script" :: xd :: N2) (vs := [.ref a]) (ds := [.scr ns]) (r := ()) (fun b o e => by
      have e : (if b = a then H a else none) = some o := e
      split at e
      · rename_i hb; rw [hb]; exact .inl e
      · cases e) trivial (fun _ z => z.elim) (.cons rep .nil)
    have ee : ent (("script" : Str) :: xd :: N2).length [D.scr ns] = lawE nl ns none := by
      show some _ :: List.replicate (N2.length + 1 + 1 - 1) none = _
      rw [hn]; rfl
    rw [ee] at this
    exact this
  refine ⟨F0, _, .nx, _, I, e1, fun F' σ' H' I' K' => ?_⟩
  exact law_rest I' (fun b => h2 ns b r hlen) hQ
end
def SysOk (h : Heap) : Prop := ∃ o es n, h.get? sysModules = some o ∧ o.data = .dict es n
def sysB (g : Addr → Option Obj) : Bool := match g sysModules with
  | some ⟨_, _, .dict _ _, _⟩ => true
  | _ => false
theorem sysB_ok {h : Heap} (e : sysB h.get? = true) : SysOk h := by
  unfold sysB at e
  split at e
  · exact ⟨_, _, _, by assumption, rfl⟩
  · cases e
theorem law_callG {P : Program} {w : World} {K : PySem.W.Frag} {mg mb : Str → Option Value} {k n : Nat} {fa a : Addr} {fd : FuncData} {x : Str} {s1 : Shared} {vs : List Value} {ns : List Int}
    (kin : K.In s1.heap) (sy : SysOk s1.heap) (hns : s1.heap.Ns mainGlobals mg) (hbl : s1.heap.Ns builtinsNs mb) (hbb : ∀ x : Str, x ≠ "__name__" → mb x = bootBuiltins x) (hlim : s1.heap.NoLimit) (hgen : s1.gens = #[])
    (ha : s1.heap.get? a = some { cls := .type "list", data := .seq vs.toArray }) (hi : IntsAre vs ns) (hl : ns.length ≤ sizeLine) (hln : ns.length ≤ n) (hr : Room k callerA)
    (F : ∀ base : Heap, K.In base → base.Ns mainGlobals mg → (∃ u, base.get? sysModules = some u) → FnG P w K mg base k fa fd [x] (spLaw K n)) (hbind : ∀ (s : Shared) (u : Value), BindsTo s fd ⟨[u], []⟩ [(x, u)]) :
    codeAny (model P w) callerA (.call (.ref fa) ⟨[.ref a], []⟩) (fun r s' => r = .ok (.ret (.bool true)) ∧ OldK s1.heap s'.heap ∧ s'.os = s1.os ∧ AllBare s'.gens) s1 := by
  have main : ∀ H : Hp, Only H → SqL K H a (ns.map V.int) → HOk P w H s1.heap → (∀ b u, H b = some u → b = a ∧ K.lookup a = none) →
      codeAny (model P w) callerA (.call (.ref fa) ⟨[.ref a], []⟩) (fun r s' => r = .ok (.ret (.bool true)) ∧ OldK s1.heap s'.heap ∧ s'.os = s1.os ∧ AllBare s'.gens) s1 := by
    intro H hO hS hok hA
    have nodict : ∀ {b : Addr} {ob : Obj} {es : Array DictEntry} {ep : Nat}, s1.heap.get? b = some ob → ob.data = .dict es ep → H b = none := by
      intro b ob es ep e d
      cases q : H b with
      | none => rfl
      | some u =>
        rw [(hA b u q).1, ha] at e
        cases e
        exact absurd d (fun z => nomatch z)
    have ns' : ∀ {b : Addr} {m : Str → Option Value}, s1.heap.Ns b m → (hidT s1.heap H).Ns b m := by
      intro b m ⟨ob, es, ep, e, d, r⟩
      exact ⟨ob, es, ep, hidT_get e (nodict e d), d, r⟩
    have kin' : K.In (hidT s1.heap H) := by
      intro b ob e
      refine hidT_get (kin b ob e) ?_
      cases q : H b with
      | none => rfl
      | some u =>
        obtain ⟨z1, z2⟩ := hA b u q
        rw [z1, z2] at e; cases e
    have sy' : ∃ u, (hidT s1.heap H).get? sysModules = some u := by
      obtain ⟨ob, es, m, e, d⟩ := sy
      exact ⟨ob, hidT_get e (nodict e d)⟩
    obtain ⟨mc, l1, l2⟩ := hlim
    have md : L2.Mod K mg (hidT s1.heap H) := ⟨kin', ns' hns, ⟨mb, ns' hbl, hbb⟩, ⟨mc, ns' l1, l2⟩⟩
    have nob : ∀ b : Addr, b ∉ frs ([] : List Env) := fun b z => by cases z
    have e0 : Env0 P w K mg (hidT s1.heap H) callerA [] s1 H :=
      ⟨rfl, md, fun b o e => of_hidT e, Nat.le_of_eq (hidT_size _ _), trivial, fun b z => (nob b z).elim, hok, .of_eq hgen⟩
    refine codeAny_mono ((F _ kin' (ns' hns) sy').go (vs := [.ref a]) (us := [.ref a]) (Q := fun v _ => v = .bl true) hr rfl e0 (hbind s1 (.ref a)) (.cons rfl .nil) ⟨a, ns, rfl, hln, hO, hS, fun _ => rfl⟩) ?_
    intro r s' h
    match r, h with
    | .ok (.ret u), h =>
      obtain ⟨v, H', os, bare, un, hok', rv, q⟩ := h
      have q : v = .bl true := q
      subst q
      obtain rfl : u = Value.bool true := rv
      refine ⟨rfl, OldK.of_keep ?_, os, bare⟩
      intro b ob e
      cases q : H b with
      | none => exact un.keep b ob e q (nob b) (by simp)
      | some u =>
        rcases hO b with z | ⟨od, xs, z⟩
        · rw [q] at z; cases z
        · have e1 := (hok b _ z).1
          rw [e] at e1
          cases e1
          exact (hok' b _ (un.frzs b _ _ z)).1
  have rv := vals_ints hi
  have lenV := hi.length
  cases hk : K.lookup a with
  | some o =>
    have e := kin a o hk
    rw [ha] at e
    cases e
    refine main (fun _ => none) (fun _ => .inl rfl) (.inr ⟨_, vs.toArray, _, hk, rfl, rfl, rfl, ?_, by simpa using rv⟩) (fun b u z => nomatch (show (none : Option HO) = some u from z)) (fun b u z => nomatch (show (none : Option HO) = some u from z))
    rw [List.size_toArray, lenV]; exact hl
  | none =>
    let Ha : Hp := upd (fun _ => none) a (.frz { cls := .type "list", data := .seq vs.toArray } (.lst (ns.map V.int)))
    have at_a : Ha a = some (.frz { cls := .type "list", data := .seq vs.toArray } (.lst (ns.map V.int))) := upd_same
    have off : ∀ b u, Ha b = some u → b = a := fun b u z => by
      by_cases hb : b = a
      · exact hb
      · have z : upd (fun _ => none) a _ b = some u := z
        rw [upd_ne hb] at z; cases z
    refine main Ha (fun b => ?_) (.inl (.inr ⟨_, at_a⟩)) (fun b u z => ?_) (fun b u z => ⟨off b u z, hk⟩)
    · cases q : Ha b with
      | none => exact .inl rfl
      | some u =>
        have := off b u q
        subst this
        rw [at_a] at q
        exact .inr ⟨_, _, q.symm⟩
    · have := off b u z
      subst this
      rw [at_a] at z
      cases z
      exact ⟨ha, by rw [List.length_map]; exact hl, vs, _, rv, ha⟩
end RW
namespace RW
open PySem L2 StX
section
variable {g : G} {X : Cx}
def seqOf : D → Option (List D)
  | .tup ds => some ds
  | .lst ds => some ds
  | _ => none
def mStar {R : Type} (ma : M R Vr) (mr : M R (List Vr)) : M R (List D) := fun s => (ma s).bind fun p => (pk (soft p.1) p.2).bind fun d => (seqOf d).bind fun ds => (mr p.2).bind fun q => (escAll q.1 q.2).bind fun z => if ds.length + q.1.length ≤ sizeLine then some (ds ++ z.1, z.2) else none
def mStarT {R : Type} (ma : M R Vr) (mr : M R (List Vr)) : M R Vr := fun s => (mStar ma mr s).map fun q => (.sh (.tup q.1), q.2)
def mStarL {R : Type} (ma : M R Vr) (mr : M R (List Vr)) : M R Vr := fun s => (mStar ma mr s).map fun q => (.tmp (.lst q.1), q.2)
def mAugI {R : Type} (i : Nat) (f : Int → Int → Int) (me : M R Vr) : MS R := fun s => match s.e[i]? with
  | some (some ⟨.int a, false⟩) => (me s).bind fun p => (match p.1 with
    | .sh (.int b) => some (.nx, { p.2 with e := p.2.e.set i (some ⟨.int (f a b), false⟩) })
    | _ => none)
  | _ => none
def gtD : D → D → Option Vr
  | .int i, .int j => some (.sh (.bl (decide (j < i))))
  | .str x, .str y => some (.sh (.bl (decide (y.cps.toList < x.cps.toList))))
  | _, _ => none
end
end RW
namespace RW
open PySem L2
section
variable {g : G} {X : Cx}
theorem RepK.at {F : Hp} : ∀ {kvs : List (Key × V)} {es : List (D × D)}, RepK g F kvs es → ∀ {i : Nat} {k : Key} {x : V}, kvs[i]? = some (k, x) → ∃ d, es[i]? = some (keyD k, d) ∧ Rep g F x d
  | _, _, .nil, i, k, x, e => by simp at e
  | _, _, .cons h t, i, k, x, e => by
    cases i with
    | zero => simp at e; obtain ⟨rfl, rfl⟩ := e; exact ⟨_, rfl, h⟩
    | succ i => obtain ⟨d, h1, h2⟩ := RepK.at t (i := i) (k := k) (x := x) (by simpa using e); exact ⟨d, by simpa using h1, h2⟩
def idxOfS (x : Str) : List Str → Option Nat
  | [] => none
  | y :: ys => if y = x then some 0 else (idxOfS x ys).map (· + 1)
def indexD : D → D → Option Vr
  | .lst ds, .str x => (strsOf ds).bind fun ys => (idxOfS x ys).map fun (j : Nat) => .sh (.int (j : Int))
  | _, _ => none
def mIndex {R : Type} (ma mb : M R Vr) : M R Vr := fun s => (ma s).bind fun p => (pk (soft p.1) p.2).bind fun d0 => if isLst d0 = true then (mb p.2).bind fun q => (pk (soft p.1) q.2).bind fun x => (pk (soft q.1) q.2).bind fun y => (indexD x y).map fun z => (z, q.2) else none
end
end RW
set_option maxHeartbeats 4000000
namespace RW.SetTx
open PySem PySem.Spec PyProof.Rows
section
variable {P : Program} {w : World} {A : Around} {E : Value → Shared → Prop} {s : Shared} {a : Addr}
structure Tr (P : Program) (w : World) (h : Heap) (a : Addr) (xs : List Str) (D : Froz.SD) (l : List Str) : Prop where
  get : h.get? a = some (Froz.sObj "set" D)
  ok : Froz.TxOk P w D l
  nd : l.Nodup
  mem : ∀ k, k ∈ l ↔ k ∈ xs
  ris : L2.Ris D.2.2.place.toList
  led : w.params.followText "set-order" = true ∨ D.2.2.led = true
def TrS (P : Program) (w : World) (h : Heap) (a : Addr) (xs : List Str) : Prop := ∃ D l, Tr P w h a xs D l
theorem TrS.at {h h' : Heap} {xs : List Str} (R : TrS P w h a xs) (k : ∀ o, h.get? a = some o → h'.get? a = some o) : TrS P w h' a xs :=
  let ⟨D, l, r⟩ := R
  ⟨D, l, k _ r.get, r.ok, r.nd, r.mem, r.ris, r.led⟩
end
end RW.SetTx
namespace RW
open PySem L2 PyProof.Rows
structure GetD where
  cls : Str
  attr : Str
  name : Str
  qual : Str
  st : Stmt
def pAd (K : PySem.W.Frag) (c f : Str) : Addr := He.ma K (He.ga K c) f
def gAd (K : PySem.W.Frag) (c f : Str) : Addr := match PySem.W.recIn K (pAd K c f) "property" with
  | some (.ref g :: _) => g
  | _ => 0
def fnAt (K : PySem.W.Frag) (a : Addr) : He.FnW := match K.lookup a with
  | some ⟨_, _, .func fd, _⟩ => some (fd.name, fd.qualname, fd.params, fd.body, fd.scope, fd.globals, fd.closure, fd.builtins)
  | _ => none
def GetD.val (q : GetD) : He.FnW := some (q.name, q.qual, defArgs q.st, .stmts (defBody q.st), defScope q.st, mainGlobals, [], builtinsNs)
def propB (K : PySem.W.Frag) (c f : Str) : Bool :=
  He.eqO (PySem.W.findIn K (.ref (He.ga K c)) f) (some (some (.ref (pAd K c f)))) && (He.eqO (PySem.W.specialIn K (.ref (pAd K c f)) "__get__") (some (some (.builtin "property.__get__"))) &&
    (decide (PySem.W.takesIn K (.ref (pAd K c f)) = some true) && (match PySem.W.recIn K (pAd K c f) "property" with
      | some (.ref _ :: _) => true
      | _ => false)))
def codeB (K : PySem.W.Frag) (a : Addr) (qual : Str) : Bool := match K.lookup a with
  | some ⟨_, _, .func fd, _⟩ => PySem.W.codeIn K fd.code qual && (He.dflB K fd.defaults [] && He.kwdB K fd.kwdefaults [])
  | _ => false
theorem fnAt_ok {K : PySem.W.Frag} {a : Addr} {x qual : Str} {st : Stmt} (e : fnAt K a = some (x, qual, defArgs st, .stmts (defBody st), defScope st, mainGlobals, [], builtinsNs)) (hk : PySem.W.keepIn K (.ref a) = true) (hc : codeB K a qual = true) : ∃ fd, FnP K x qual st a fd := by
  unfold fnAt at e
  unfold codeB at hc
  split at e
  · rename_i oc od fd osl lk
    rw [lk] at hc
    have hc : (PySem.W.codeIn K fd.code qual && (He.dflB K fd.defaults [] && He.kwdB K fd.kwdefaults [])) = true := hc
    rw [Bool.and_eq_true, Bool.and_eq_true] at hc
    obtain ⟨h1, h2, h3⟩ := hc
    simp only [Option.some.injEq, Prod.mk.injEq] at e
    obtain ⟨e1, e2, e3, e4, e5, e6, e7, e8⟩ := e
    cases fd
    simp only at e1 e2 e3 e4 e5 e6 e7 e8 h1 h2 h3
    subst e1 e2 e3 e4 e5 e6 e7 e8
    exact ⟨_, ⟨oc, od, _, _, _, _, _, _, _, osl, rfl, lk, h1, He.dflB_ok h2, He.kwdB_ok h3⟩, hk⟩
  · cases e
def getB (K : PySem.W.Frag) (q : GetD) : Bool := propB K q.cls q.attr && (PySem.W.keepIn K (.ref (gAd K q.cls q.attr)) && codeB K (gAd K q.cls q.attr) q.qual)
def obsGet (gts : List GetD) (K : PySem.W.Frag) : He.AlD := (gts.all fun q => getB K q, gts.map fun q => fnAt K (gAd K q.cls q.attr))
def valGet (gts : List GetD) : He.AlD := (true, gts.map GetD.val)
def GetsD (gts : List GetD) (K : PySem.W.Frag) : Prop := obsGet gts K = valGet gts
section
variable {gts : List GetD} {K : PySem.W.Frag}
theorem GetsD.all_ (h : GetsD gts K) (i : Nat) {q : GetD} (e : gts[i]? = some q) : getB K q = true := by
  have c : (gts.all fun q => getB K q) = true := congrArg (fun z : He.AlD => z.1) h
  exact List.all_eq_true.mp c q (List.mem_of_getElem? e)
theorem GetsD.get (h : GetsD gts K) (i : Nat) {q : GetD} (e : gts[i]? = some q := by rfl) : ∃ fd, FnP K q.name q.qual q.st (gAd K q.cls q.attr) fd := by
  have c := h.all_ i e
  unfold getB at c
  rw [Bool.and_eq_true, Bool.and_eq_true] at c
  have e2 : (gts.map fun q => fnAt K (gAd K q.cls q.attr)) = gts.map GetD.val := congrArg (fun z : He.AlD => z.2) h
  have e3 := congrArg (fun l : List He.FnW => l[i]?) e2
  simp only [List.getElem?_map, e, Option.map_some, Option.some.injEq] at e3
  exact fnAt_ok e3 c.2.1 c.2.2
end
def obsP (n : Nat) (fa : List He.Fa) (fn : List He.DefD) (gts : List GetD) (ex : PySem.W.Frag → Bool) (g : Addr → Option Obj) : ((Bool × Bool) × He.AlD) × He.AlD :=
  let K := He.frG g (He.asD g n)
  (((sysB g, ex K), He.obsD fa fn K), obsGet gts K)
structure SaysP (fa : List He.Fa) (fn : List He.DefD) (gts : List GetD) (ex : PySem.W.Frag → Bool) (h : Heap) (K : PySem.W.Frag) : Prop where
  kin : K.In h
  c : He.SaysD fa fn K
  ex : ex K = true
  sy : SysOk h
  gt : GetsD gts K
def hookP (n : Nat) (fa : List He.Fa) (fn : List He.DefD) (gts : List GetD) (ex : PySem.W.Frag → Bool) : PySem.W.Hook where
  α := ((Bool × Bool) × He.AlD) × He.AlD
  obs := fun s => obsP n fa fn gts ex s.heap.get?
  val := fun _ => (((true, true), He.valD fn), valGet gts)
  says := fun _ h => ∃ K : PySem.W.Frag, SaysP fa fn gts ex h K
  of := fun _ s e => ⟨_, He.frG_in, congrArg (fun z : ((Bool × Bool) × He.AlD) × He.AlD => z.1.2) e, congrArg (fun z : ((Bool × Bool) × He.AlD) × He.AlD => z.1.1.2) e, sysB_ok (congrArg (fun z : ((Bool × Bool) × He.AlD) × He.AlD => z.1.1.1) e), congrArg (fun z : ((Bool × Bool) × He.AlD) × He.AlD => z.2) e⟩
  keeps := fun _ _ _ ⟨K, hK, c, e, ⟨o, es, n, h1, h2⟩, gt⟩ k => ⟨K, PySem.W.Frag.In.keeps hK k, c, e, ⟨o, es, n, k _ _ h1, h2⟩, gt⟩
theorem end_ofP {l : PySem.W.OpenLaw} {n k : Nat} {q : Program} {loose : List Str} {XP : (Str → Option Value) → Heap → Prop} {d : DefRec} {x : Str} {fa : List He.Fa} {fn : List He.DefD} {gts : List GetD} {ex : PySem.W.Frag → Bool} {dep : Nat}
    (hn : l.most = some n) (hn2 : n ≤ sizeLine) (hdf : d.params.defaults = []) (hr : Room k callerA)
    (F : ∀ (w : World) (mg : Str → Option Value) (f : Addr) (h : Heap) (K : PySem.W.Frag), SaysP fa fn gts ex h K → h.Ns mainGlobals mg → mg d.name = some (.ref f) →
      ∃ fd : FuncData, (∀ (s : Shared) (u : Value), BindsTo s fd ⟨[u], []⟩ [(x, u)]) ∧
        ∀ base : Heap, K.In base → base.Ns mainGlobals mg → (∃ u, base.get? sysModules = some u) → FnG l.prog w K mg base k f fd [x] (spLaw K n)) :
    PySem.W.WalkO q loose XP (hookP dep fa fn gts ex).says l.row.toRowW d [] (fun f vs => PySem.call f vs) := by
  refine Att.attach_call hn hdf ?_
  intro w s0 s1 mg mb f o pm cd doc a vs ns G Y ho hd hcd hmg hobj hints hlen hg
  obtain ⟨K, hK⟩ := Y
  obtain ⟨fd, hb, hF⟩ := F w mg f _ K hK G.T.g hmg
  exact law_callG hK.kin hK.sy G.T.g G.T.b G.T.builtins G.T.nolimit hg hobj hints (Nat.le_trans hlen hn2) hlen hr hF hb
end RW
namespace RW
open PySem L2 PySem.W HandSHeadRun
def obsQ (n : Nat) (fa : List He.Fa) (fn : List He.DefD) (gts : List GetD) (ex : PySem.W.Frag → Bool) (g : Addr → Option Obj) : ((Bool × Bool) × He.AlD) × He.AlD :=
  let K := He.frG g (List.range n)
  (((sysB g, ex K), He.obsD fa fn K), obsGet gts K)
def hookQ (n : Nat) (fa : List He.Fa) (fn : List He.DefD) (gts : List GetD) (ex : PySem.W.Frag → Bool) : PySem.W.Hook where
  α := ((Bool × Bool) × He.AlD) × He.AlD
  obs := fun s => obsQ n fa fn gts ex s.heap.get?
  val := fun _ => (((true, true), He.valD fn), valGet gts)
  says := fun _ h => ∃ K : PySem.W.Frag, SaysP fa fn gts ex h K
  of := fun _ s e => ⟨_, He.frG_in, congrArg (fun z : ((Bool × Bool) × He.AlD) × He.AlD => z.1.2) e, congrArg (fun z : ((Bool × Bool) × He.AlD) × He.AlD => z.1.1.2) e, sysB_ok (congrArg (fun z : ((Bool × Bool) × He.AlD) × He.AlD => z.1.1.1) e), congrArg (fun z : ((Bool × Bool) × He.AlD) × He.AlD => z.2) e⟩
  keeps := fun _ _ _ ⟨K, hK, c, e, ⟨o, es, n, h1, h2⟩, gt⟩ k => ⟨K, PySem.W.Frag.In.keeps hK k, c, e, ⟨o, es, n, k _ _ h1, h2⟩, gt⟩
theorem obsQ_eq {m : Nat} {fa : List He.Fa} {fn : List He.DefD} {gts : List GetD} {ex : PySem.W.Frag → Bool} {g : Addr → Option Obj} {s : Shared} (h : ∀ a, g a = s.heap.get? a) : obsQ m fa fn gts ex g = (hookQ m fa fn gts ex).obs s := by
  have e : g = s.heap.get? := funext h
  rw [e]; rfl
theorem end_ofQ {l : PySem.W.OpenLaw} {n k m : Nat} {q : Program} {loose : List Str} {XP : (Str → Option Value) → Heap → Prop} {d : DefRec} {x : Str} {fa : List He.Fa} {fn : List He.DefD} {gts : List GetD} {ex : PySem.W.Frag → Bool}
    (hn : l.most = some n) (hn2 : n ≤ sizeLine) (hdf : d.params.defaults = []) (hr : Room k callerA)
    (F : ∀ (w : World) (mg : Str → Option Value) (f : Addr) (h : Heap) (K : PySem.W.Frag), SaysP fa fn gts ex h K → h.Ns mainGlobals mg → mg d.name = some (.ref f) →
      ∃ fd : FuncData, (∀ (s : Shared) (u : Value), BindsTo s fd ⟨[u], []⟩ [(x, u)]) ∧
        ∀ base : Heap, K.In base → base.Ns mainGlobals mg → (∃ u, base.get? sysModules = some u) → FnG l.prog w K mg base k f fd [x] (spLaw K n)) :
    PySem.W.WalkO q loose XP (hookQ m fa fn gts ex).says l.row.toRowW d [] (fun f vs => PySem.call f vs) := end_ofP (dep := 6) hn hn2 hdf hr F
def RunA (r : OpenRow) (q : Program) (M : Nat) (loose : List PySem.Str) (w : World) : Prop :=
  ∀ os : OsState, (endF (stepQ (denQ tabQ) r.prog w) M r.prog w os).map (fun s => (looksF r.prog (boot_heap w.params) s.abs, seenQ q loose (importedModules r.prog.main.body) (fun s => xlAt q [] s && recOk r.toRowW.records s) s.abs)) = some (true, openGood q loose)
def RunB (r : OpenRow) (H : Hook) (ob : SharedT → H.α) (M : Nat) (w : World) : Prop :=
  ∀ os : OsState, (endF (stepQ (denQ tabQ) r.prog w) M r.prog w os).map ob = some (H.val w)
theorem run_of {r : OpenRow} {q : Program} {H : Hook} {ob : SharedT → H.α} {M : Nat} {loose : List PySem.Str} {w : World} (a : RunA r q M loose w) (b : RunB r H ob M w) : RunEq r q H ob M loose w := by
  intro os
  have ha := a os
  have hb := b os
  revert ha hb
  generalize endF (stepQ (denQ tabQ) r.prog w) M r.prog w os = X
  intro ha hb
  cases X with
  | none => cases ha
  | some s =>
    rw [Option.map_some, Option.some.injEq] at ha hb ⊢
    obtain ⟨h1, h2⟩ := Prod.mk.inj ha
    exact Prod.ext h1 (Prod.ext h2 hb)
end RW
namespace RW
open PySem L2
section
variable {g : G} {X : Cx}
structure Gst (g : G) (F : Hp) (e : List (Option Cell)) (σ : St) (H : Hp) (Γ : Hp) : Prop where
  at_ : ∀ a o, Γ a = some o → H a = some o
  nt : ∀ a o, Γ a = some o → NT o
  nf : ∀ a o, Γ a = some o → F a = none
  no : ∀ a o, Γ a = some o → ¬ Own σ e a
  ft : ∀ a o, Γ a = some o → ¬ g.R.foot a
theorem Gst.keep {F F' H H' Γ : Hp} {s s' : S g.R.S} {σ σ' : St} (G : Gst g F s.e σ H Γ) (K : Keep g F s σ H F' s' σ' H') : Gst g F' s'.e σ' H' Γ :=
  ⟨fun a o h => K.heap a o (G.at_ a o h) (G.no a o h) (G.ft a o h), G.nt, fun a o h => K.nof a o (G.at_ a o h) (G.nt a o h) (G.nf a o h) (G.no a o h), fun a o h z => (K.own a z).elim (G.no a o h) (fun z => by rw [G.at_ a o h] at z; cases z), G.ft⟩
def un (F Γ : Hp) : Hp := fun a => match Γ a with
  | some o => some o
  | none => F a
theorem un_in {F Γ : Hp} {a : Addr} {o : HO} (h : Γ a = some o) : un F Γ a = some o := by unfold un; rw [h]
theorem un_out {F Γ : Hp} {a : Addr} (h : Γ a = none) : un F Γ a = F a := by unfold un; rw [h]
theorem Gst.le {F H Γ : Hp} {e : List (Option Cell)} {σ : St} (G : Gst g F e σ H Γ) : Le F (un F Γ) := fun a o h => by
  cases z : Γ a with
  | none => rw [un_out z]; exact h
  | some u => rw [G.nf a u z] at h; cases h
theorem Gst.merge {F H Γ : Hp} {s : S g.R.S} {σ : St} (G : Gst g F s.e σ H Γ) (I : Sim g F s σ H) : Sim g (un F Γ) s σ H := by
  refine ⟨fun a o h => ?_, I.at_, fun a ha => ?_, I.len, fun i c e => ?_, I.apart⟩
  · cases z : Γ a with
    | none => rw [un_out z] at h; exact I.sub a o h
    | some u => rw [un_in z] at h; cases h; exact .inl (G.at_ a _ z)
  · cases z : Γ a with
    | none => rw [un_out z]; exact I.foot a ha
    | some u => exact (G.ft a u z ha).elim
  · obtain ⟨v, e1, q⟩ := I.cell i c e
    refine ⟨v, e1, ?_⟩
    rcases q with ⟨x, y⟩ | ⟨x, p, o, b1, b2, b3, b4, b5⟩
    · exact .inl ⟨x, y.mono G.le⟩
    · refine .inr ⟨x, p, o, b1, ?_, b3, b4, b5.mono G.le⟩
      cases z : Γ p with
      | none => rw [un_out z]; exact b2
      | some u => exact (G.no p u z ⟨i, c, e, x, by rw [e1, b1]⟩).elim
theorem Keep.merge {F0 F H0 H Γ : Hp} {s0 s : S g.R.S} {σ0 σ : St} (K : Keep g F0 s0 σ0 H0 F s σ H) (hf : ∀ a o, Γ a = some o → H0 a = none) (le : Le F (un F Γ)) : Keep g F0 s0 σ0 H0 (un F Γ) s σ H :=
  ⟨K.heap, K.grow.trans le, (fun a o h nt r n => by
    cases z : Γ a with
    | none => rw [un_out z]; exact K.nof a o h nt r n
    | some u => rw [hf a u z] at h; cases h), K.own, K.there⟩
theorem set_none {e : List (Option Cell)} {i k : Nat} {c : Cell} (h : (e.set i none)[k]? = some (some c)) : i ≠ k ∧ e[k]? = some (some c) := by
  rw [List.getElem?_set] at h
  split at h
  · split at h <;> cases h
  · rename_i n; exact ⟨n, h⟩
theorem set_sh {e : List (Option Cell)} {i k : Nat} {c c0 : Cell} (h : (e.set i (some c0))[k]? = some (some c)) : (i = k ∧ c = c0) ∨ (i ≠ k ∧ e[k]? = some (some c)) := by
  rw [List.getElem?_set] at h
  split at h
  · rename_i n
    split at h
    · cases h; exact .inl ⟨n, rfl⟩
    · cases h
  · rename_i n; exact .inr ⟨n, h⟩
theorem own_sh {e : List (Option Cell)} {σ : St} {i : Nat} {d : D} {a : Addr} (h : Own σ (e.set i (some ⟨d, false⟩)) a) : Own σ e a := by
  obtain ⟨k, c, h1, h2, h3⟩ := h
  rcases set_sh h1 with ⟨_, z⟩ | ⟨_, z⟩
  · rw [z] at h2; cases h2
  · exact ⟨k, c, z, h2, h3⟩
theorem Sim.drop {F H : Hp} {s : S g.R.S} {σ : St} (I : Sim g F s σ H) (i : Nat) (v : Option V) : Sim g F ⟨s.e.set i none, s.r⟩ (σ.set i v) H := by
  refine ⟨I.sub, I.at_, I.foot, by show (s.e.set i none).length = _; rw [List.length_set, List.length_set]; exact I.len, fun k c h => ?_, fun k1 k2 c1 c2 a n x1 x2 o1 o2 q => ?_⟩
  · obtain ⟨n, h⟩ := set_none h
    obtain ⟨w, h1, h2⟩ := I.cell k c h
    exact ⟨w, by rw [List.getElem?_set_ne n]; exact h1, h2⟩
  · obtain ⟨n1, x1⟩ := set_none x1
    obtain ⟨n2, x2⟩ := set_none x2
    rw [List.getElem?_set_ne n1] at q
    rw [List.getElem?_set_ne n2]
    exact I.apart k1 k2 c1 c2 a n x1 x2 o1 o2 q
theorem Sim.setSh {F H : Hp} {s : S g.R.S} {σ : St} (I : Sim g F s σ H) {i : Nat} {d : D} {v : V} (hv : σ[i]? = some (some v)) (r : Rep g F v d) : Sim g F ⟨s.e.set i (some ⟨d, false⟩), s.r⟩ σ H := by
  refine ⟨I.sub, I.at_, I.foot, by show (s.e.set i _).length = _; rw [List.length_set]; exact I.len, fun k c h => ?_, fun k1 k2 c1 c2 a n x1 x2 o1 o2 q => ?_⟩
  · rcases set_sh h with ⟨rfl, rfl⟩ | ⟨_, h⟩
    · exact ⟨v, hv, .inl ⟨rfl, r⟩⟩
    · exact I.cell k c h
  · rcases set_sh x1 with ⟨_, rfl⟩ | ⟨_, x1⟩
    · cases o1
    · rcases set_sh x2 with ⟨_, rfl⟩ | ⟨_, x2⟩
      · cases o2
      · exact I.apart k1 k2 c1 c2 a n x1 x2 o1 o2 q
inductive Itm (g : G) (F Γ : Hp) : List Addr → List D → Prop
  | nil : Itm g F Γ [] []
  | cons {q : Addr} {o : HO} {d : D} {qs : List Addr} {ds : List D} : Γ q = some o → RepO g F o d → Itm g F Γ qs ds → Itm g F Γ (q :: qs) (d :: ds)
theorem Itm.mono {F F' Γ Γ' : Hp} (le : Le F F') : ∀ {qs : List Addr} {ds : List D}, Itm g F Γ qs ds → (∀ q ∈ qs, Γ' q = Γ q) → Itm g F' Γ' qs ds
  | _, _, .nil, _ => .nil
  | _, _, .cons h1 h2 t, h => .cons (by rw [h _ List.mem_cons_self]; exact h1) (h2.mono le) (t.mono le fun q hq => h q (List.mem_cons_of_mem _ hq))
theorem Itm.append {F Γ : Hp} {q : Addr} {o : HO} {d : D} (h1 : Γ q = some o) (h2 : RepO g F o d) : ∀ {qs : List Addr} {ds : List D}, Itm g F Γ qs ds → Itm g F Γ (qs ++ [q]) (ds ++ [d])
  | _, _, .nil => .cons h1 h2 .nil
  | _, _, .cons a b t => .cons a b (t.append h1 h2)
theorem Itm.length {F Γ : Hp} : ∀ {qs : List Addr} {ds : List D}, Itm g F Γ qs ds → qs.length = ds.length
  | _, _, .nil => rfl
  | _, _, .cons _ _ t => by rw [List.length_cons, List.length_cons, t.length]
theorem Itm.mem {F Γ : Hp} : ∀ {qs : List Addr} {ds : List D}, Itm g F Γ qs ds → ∀ q ∈ qs, ∃ o, Γ q = some o
  | _, _, .nil, q, h => by cases h
  | _, _, .cons h1 _ t, q, h => by
    rcases List.mem_cons.mp h with rfl | h
    · exact ⟨_, h1⟩
    · exact t.mem q h
theorem Itm.at {F Γ : Hp} : ∀ {qs : List Addr} {ds : List D}, Itm g F Γ qs ds → ∀ {k : Nat} {d : D}, ds[k]? = some d → ∃ q o, qs[k]? = some q ∧ Γ q = some o ∧ RepO g F o d
  | _, _, .nil, k, d, h => by simp at h
  | _, _, .cons h1 h2 t, k, d, h => by
    cases k with
    | zero => simp at h; subst h; exact ⟨_, _, rfl, h1, h2⟩
    | succ k => obtain ⟨q, o, a, b, c⟩ := t.at (k := k) (by simpa using h); exact ⟨q, o, by simpa using a, b, c⟩
theorem Itm.set {F Γ : Hp} {q : Addr} {o : HO} {d : D} (h2 : RepO g F o d) : ∀ {qs : List Addr} {ds : List D} {k : Nat}, Itm g F Γ qs ds → qs.Nodup → qs[k]? = some q → Itm g F (upd Γ q o) qs (ds.set k d)
  | _, _, k, .nil, _, e => by simp at e
  | q0 :: qs, _, 0, .cons _ _ t, n, e => by
    simp at e; subst e
    refine .cons upd_same h2 (t.mono (Le.refl _) fun q hq => upd_ne fun z => ?_)
    subst z; exact (List.nodup_cons.mp n).1 hq
  | q0 :: qs, _, k + 1, .cons a b t, n, e => by
    have e : qs[k]? = some q := by simpa using e
    refine .cons ?_ b (t.set h2 (List.nodup_cons.mp n).2 e)
    rw [upd_ne fun z => (List.nodup_cons.mp n).1 (by rw [z]; exact List.mem_of_getElem? e)]
    exact a
end
end RW
namespace RW
open PySem L2
section
variable {g : G} {X : Cx}
theorem valV_put (key : Key) (v : V) : ∀ kvs : List (Key × V), valV (putK kvs key v) key = some v := by
  have h1 : ∀ kvs : List (Key × V), (kvs.any fun kv => decide (kv.1 = key)) = true → valV (kvs.map fun kv => if kv.1 = key then (kv.1, v) else kv) key = some v := by
    intro kvs
    induction kvs with
    | nil => intro h; cases h
    | cons kv kvs ih =>
      intro h
      rw [List.map_cons]
      by_cases e : kv.1 = key
      · rw [if_pos e]; exact valV_pos (p := (kv.1, v)) e
      · rw [if_neg e, valV_neg (p := kv) e]
        refine ih ?_
        rw [List.any_cons, decide_eq_false e, Bool.false_or] at h; exact h
  have h2 : ∀ kvs : List (Key × V), (kvs.any fun kv => decide (kv.1 = key)) = false → valV (kvs ++ [(key, v)]) key = some v := by
    intro kvs
    induction kvs with
    | nil => intro _; exact valV_pos (p := (key, v)) rfl
    | cons kv kvs ih =>
      intro h
      rw [List.any_cons, Bool.or_eq_false_iff] at h
      rw [List.cons_append, valV_neg (p := kv) (of_decide_eq_false h.1)]
      exact ih h.2
  intro kvs
  unfold putK
  split
  · rename_i h; exact h1 kvs h
  · rename_i h
    refine h2 kvs ?_
    cases z : kvs.any fun kv => decide (kv.1 = key) with
    | false => rfl
    | true => exact (h z).elim
end
end RW
namespace RW
open PySem L2
section
variable {g : G} {X : Cx}
inductive ItB (g : G) (F Γ : Hp) : List (Key × V) → List Addr → List (D × D) → Prop
  | nil : ItB g F Γ [] [] []
  | cons {k : Key} {p a b : Addr} {oa ob : HO} {da db : D} {kvs : List (Key × V)} {ads : List Addr} {es : List (D × D)} : F p = some (.tup [.ref a, .ref b]) → Γ a = some oa → RepO g F oa da → Γ b = some ob → RepO g F ob db → ItB g F Γ kvs ads es → ItB g F Γ ((k, .ref p) :: kvs) (a :: b :: ads) ((keyD k, .tup [da, db]) :: es)
theorem ItB.mono {F F' Γ Γ' : Hp} (le : Le F F') : ∀ {kvs : List (Key × V)} {ads : List Addr} {es : List (D × D)}, ItB g F Γ kvs ads es → (∀ q ∈ ads, Γ' q = Γ q) → ItB g F' Γ' kvs ads es
  | _, _, _, .nil, _ => .nil
  | _, _, _, .cons h1 h2 h3 h4 h5 t, h => .cons (le _ _ h1) (by rw [h _ (by simp)]; exact h2) (h3.mono le) (by rw [h _ (by simp)]; exact h4) (h5.mono le) (t.mono le fun q hq => h q (by simp [hq]))
theorem ItB.append {F Γ : Hp} {k : Key} {p a b : Addr} {oa ob : HO} {da db : D} (h1 : F p = some (.tup [.ref a, .ref b])) (h2 : Γ a = some oa) (h3 : RepO g F oa da) (h4 : Γ b = some ob) (h5 : RepO g F ob db) : ∀ {kvs : List (Key × V)} {ads : List Addr} {es : List (D × D)}, ItB g F Γ kvs ads es → ItB g F Γ (kvs ++ [(k, .ref p)]) (ads ++ [a, b]) (es ++ [(keyD k, .tup [da, db])])
  | _, _, _, .nil => .cons h1 h2 h3 h4 h5 .nil
  | _, _, _, .cons a1 a2 a3 a4 a5 t => .cons a1 a2 a3 a4 a5 (t.append h1 h2 h3 h4 h5)
theorem ItB.mem {F Γ : Hp} : ∀ {kvs : List (Key × V)} {ads : List Addr} {es : List (D × D)}, ItB g F Γ kvs ads es → ∀ q ∈ ads, ∃ o, Γ q = some o
  | _, _, _, .nil, q, h => by cases h
  | _, _, _, .cons _ h2 _ h4 _ t, q, h => by
    rcases List.mem_cons.mp h with rfl | h
    · exact ⟨_, h2⟩
    · rcases List.mem_cons.mp h with rfl | h
      · exact ⟨_, h4⟩
      · exact t.mem q h
theorem ItB.length {F Γ : Hp} : ∀ {kvs : List (Key × V)} {ads : List Addr} {es : List (D × D)}, ItB g F Γ kvs ads es → kvs.length = es.length
  | _, _, _, .nil => rfl
  | _, _, _, .cons _ _ _ _ _ t => by rw [List.length_cons, List.length_cons, t.length]
theorem ItB.any {F Γ : Hp} (key : Key) : ∀ {kvs : List (Key × V)} {ads : List Addr} {es : List (D × D)}, ItB g F Γ kvs ads es → (es.any fun p => keq p.1 (keyD key)) = kvs.any fun kv => decide (kv.1 = key)
  | _, _, _, .nil => rfl
  | _, _, _, .cons _ _ _ _ _ t => by simp only [List.any_cons, keq_key, t.any key]
def pairPut (b : Bool) (nd : Str) (d : D) : D → Option D
  | .tup [.dct false e0, .dct false e1] => if e0.length < sizeLine ∧ e1.length < sizeLine then some (if b = true then .tup [.dct false e0, .dct false (putE e1 (.str nd) d)] else .tup [.dct false (putE e0 (.str nd) d), .dct false e1]) else none
  | _ => none
theorem pairPut_inv {b : Bool} {nd : Str} {d v v' : D} (h : pairPut b nd d v = some v') : ∃ e0 e1, v = .tup [.dct false e0, .dct false e1] ∧ (e0.length < sizeLine ∧ e1.length < sizeLine) ∧ v' = if b = true then .tup [.dct false e0, .dct false (putE e1 (.str nd) d)] else .tup [.dct false (putE e0 (.str nd) d), .dct false e1] := by
  unfold pairPut at h
  split at h
  · rename_i e0 e1
    split at h
    · rename_i hl; cases h; exact ⟨e0, e1, rfl, hl, rfl⟩
    · cases h
  · cases h
def tabPut (x : Str) (b : Bool) (nd : Str) (d : D) : List (D × D) → Option (List (D × D))
  | [] => none
  | (k, v) :: r => if keq k (.str x) = true then (pairPut b nd d v).map fun v' => (k, v') :: r else (tabPut x b nd d r).map fun r' => (k, v) :: r'
theorem ItB.put {F Γ : Hp} {x nd : Str} {b : Bool} {v : V} {d : D} (hv : Rep g F v d) : ∀ {kvs : List (Key × V)} {ads : List Addr} {es es' : List (D × D)}, ItB g F Γ kvs ads es → ads.Nodup → tabPut x b nd d es = some es' →
    ∃ p a0 a1 q kq, valV kvs (.inr x) = some (.ref p) ∧ F p = some (.tup [.ref a0, .ref a1]) ∧ q = (if b = true then a1 else a0) ∧ q ∈ ads ∧ Γ q = some (.dK kq) ∧ kq.length < sizeLine ∧ ItB g F (upd Γ q (.dK (putK kq (.inr nd) v))) kvs ads es'
  | _, _, _, _, .nil, _, e => by cases e
  | _, _, _, es', @ItB.cons _ _ _ k p a a1 oa ob da db kvs ads es h1 h2 h3 h4 h5 t, n, e => by
    rw [tabPut] at e
    have n1 := (List.nodup_cons.mp n).1
    have n2 := (List.nodup_cons.mp (List.nodup_cons.mp n).2).1
    have n3 := (List.nodup_cons.mp (List.nodup_cons.mp n).2).2
    have hab : a ≠ a1 := fun z => n1 (by rw [z]; exact List.mem_cons_self)
    have hk : keq (keyD k) (.str x) = decide (k = .inr x) := keq_key k (.inr x)
    rw [hk] at e
    by_cases ek : k = .inr x
    · rw [if_pos (by rw [decide_eq_true ek])] at e
      obtain ⟨v', e2, rfl⟩ := Option.map_eq_some_iff.mp e
      obtain ⟨e0, e1, heq, hl, rfl⟩ := pairPut_inv e2
      cases heq
      cases h3 with
      | dK h3 =>
      cases h5 with
      | dK h5 =>
      rename_i kv0 kv1
      have hval : valV ((k, V.ref p) :: kvs) (.inr x) = some (.ref p) := valV_pos (p := (k, V.ref p)) ek
      cases b with
      | true =>
        refine ⟨p, a, a1, a1, kv1, hval, h1, rfl, by simp, h4, by rw [h5.length]; exact hl.2, ?_⟩
        refine .cons h1 (by rw [upd_ne hab]; exact h2) (.dK h3) upd_same (.dK (h5.put (.inr nd) hv)) (t.mono (Le.refl _) fun q hq => upd_ne fun z => n2 (by rw [← z]; exact hq))
      | false =>
        refine ⟨p, a, a1, a, kv0, hval, h1, rfl, by simp, h2, by rw [h3.length]; exact hl.1, ?_⟩
        refine .cons h1 upd_same (.dK (h3.put (.inr nd) hv)) (by rw [upd_ne (Ne.symm hab)]; exact h4) (.dK h5) (t.mono (Le.refl _) fun q hq => upd_ne fun z => n1 (by rw [← z]; exact List.mem_cons_of_mem _ hq))
    · rw [if_neg (by rw [decide_eq_false ek]; exact Bool.false_ne_true)] at e
      obtain ⟨r', e1, rfl⟩ := Option.map_eq_some_iff.mp e
      obtain ⟨p', c0, c1, q, kq, g1, g2, g3, g4, g5, g6, g7⟩ := t.put hv n3 e1
      refine ⟨p', c0, c1, q, kq, by rw [valV_neg (p := (k, V.ref p)) ek]; exact g1, g2, g3, by simp [g4], g5, g6, ?_⟩
      refine .cons h1 ?_ h3 ?_ h5 g7
      · rw [upd_ne fun z => n1 (by rw [z]; exact List.mem_cons_of_mem _ g4)]; exact h2
      · rw [upd_ne fun z => n2 (by rw [z]; exact g4)]; exact h4
end
end RW
namespace RW
open PySem L2
section
variable {g : G} {X : Cx}
abbrev Ft (R : Type) := List D → R → Option (List (D × D) × R)
def spT (g : G) (mt : Ft g.R.S) : Sp := fun vs H Q _ => ∃ F r ds es r', Sub F H ∧ g.R.At r H ∧ (∀ a, g.R.foot a → F a = none) ∧ RepAll g F vs ds ∧ ds.length = 1 ∧ mt ds r = some (es, r') ∧
  ∀ F' t kvs ads Γ H', Left g F H F' H' r' → (∀ a o, Γ a = some o → H' a = some o ∧ NT o ∧ F' a = none ∧ ¬ g.R.foot a ∧ H a = none) → Γ t = some (.dK kvs) → (t :: ads).Nodup → ItB g F' Γ kvs ads es → Q (.ref t) H'
structure FuT (g : G) (P : Program) (w : World) (mg : Str → Option Value) (base : Heap) (k : Nat) (x qual : Str) (st : Stmt) (ps : List Str) (mt : Ft g.R.S) (f : Addr) : Prop where
  ex : ∃ fd, FnP g.K x qual st f fd ∧ FnG P w g.K mg base k f fd ps (spT g mt) ∧ Binds g.K fd ps []
theorem FuT.mono {P : Program} {w : World} {mg : Str → Option Value} {base : Heap} {j k : Nat} {x qual : Str} {st : Stmt} {ps : List Str} {mt : Ft g.R.S} {f : Addr} (h : FuT g P w mg base j x qual st ps mt f) (hk : j ≤ k) : FuT g P w mg base k x qual st ps mt f := by
  obtain ⟨fd, h1, h2, h3⟩ := h
  exact ⟨fd, h1, h2.mono hk, h3⟩
end
end RW
namespace RW
open PySem L2 PyProof.Rows
def valN (ents : List (NestedKey × Addr × V)) (k : NestedKey) : Option V := (ents.find? fun e => decide (e.1 = k)).map (·.2.2)
def putN (ents : List (NestedKey × Addr × V)) (k : NestedKey) (b : Addr) (v : V) : List (NestedKey × Addr × V) :=
  if (valN ents k).isSome then ents.map (fun e => if e.1 = k then (e.1, e.2.1, v) else e) else ents ++ [(k, b, v)]
end RW
namespace RW
open PySem L2 PyProof.Rows
def hitN (es : List (D × D)) (k : NestedKey) : Option D := (es.find? fun p => decide (nkT p.1 = some k)).map (·.2)
def putEN (es : List (D × D)) (k : NestedKey) (kd v : D) : List (D × D) :=
  if (hitN es k).isSome then es.map (fun p => if nkT p.1 = some k then (p.1, v) else p) else es ++ [(kd, v)]
section
variable {g : G} {F : Hp}
theorem RepN.val (k : NestedKey) : ∀ {ents : List (NestedKey × Addr × V)} {es : List (D × D)}, RepN g F ents es → (∀ d, hitN es k = some d → ∃ v, valN ents k = some v ∧ Rep g F v d) ∧ (hitN es k = none → valN ents k = none)
  | _, _, .nil => ⟨(fun _ h => nomatch (show (none : Option D) = some _ from h)), (fun _ => rfl)⟩
  | _, _, .cons (k := k') (b := b) (v := v) (kd := kd) (d := d) hb hk hv t => by
    obtain ⟨h1, h2⟩ := RepN.val k t
    unfold hitN valN at *
    rw [List.find?_cons, List.find?_cons]
    by_cases e : k' = k
    · have e' : nkT kd = some k := by rw [hk, e]
      simp only [e, e', decide_true, Option.map_some]
      exact ⟨fun d' h => ⟨v, rfl, by cases h; exact hv⟩, fun h => by cases h⟩
    · have e' : ¬ nkT kd = some k := fun z => e (by rw [hk] at z; exact Option.some.inj z)
      simp only [e, e', decide_false]
      exact ⟨h1, h2⟩
theorem RepN.isSome (k : NestedKey) {ents : List (NestedKey × Addr × V)} {es : List (D × D)} (h : RepN g F ents es) : (valN ents k).isSome = (hitN es k).isSome := by
  obtain ⟨h1, h2⟩ := h.val k
  cases e : hitN es k with
  | none => rw [h2 e]; rfl
  | some d => obtain ⟨v, h3, _⟩ := h1 d e; rw [h3]; rfl
theorem RepN.length : ∀ {ents : List (NestedKey × Addr × V)} {es : List (D × D)}, RepN g F ents es → ents.length = es.length
  | _, _, .nil => rfl
  | _, _, .cons _ _ _ t => by simp [RepN.length t]
theorem RepN.setAll (k : NestedKey) {v : V} {d : D} (r : Rep g F v d) : ∀ {ents : List (NestedKey × Addr × V)} {es : List (D × D)}, RepN g F ents es → RepN g F (ents.map fun e => if e.1 = k then (e.1, e.2.1, v) else e) (es.map fun p => if nkT p.1 = some k then (p.1, d) else p)
  | _, _, .nil => .nil
  | _, _, .cons (k := k') (kd := kd) hb hk hv t => by
    rw [List.map_cons, List.map_cons]
    by_cases e : k' = k
    · rw [if_pos e, if_pos (by rw [hk, e])]; exact .cons hb hk r (RepN.setAll k r t)
    · rw [if_neg e, if_neg (fun z => e (by rw [hk] at z; exact Option.some.inj z))]; exact .cons hb hk hv (RepN.setAll k r t)
theorem RepN.snoc {k : NestedKey} {b : Addr} {v : V} {kd d : D} (h1 : Rep g F (.ref b) kd) (h2 : nkT kd = some k) (h3 : Rep g F v d) : ∀ {ents : List (NestedKey × Addr × V)} {es : List (D × D)}, RepN g F ents es → RepN g F (ents ++ [(k, b, v)]) (es ++ [(kd, d)])
  | _, _, .nil => .cons h1 h2 h3 .nil
  | _, _, .cons a c e t => .cons a c e (RepN.snoc h1 h2 h3 t)
theorem RepN.put {k : NestedKey} {b : Addr} {v : V} {kd d : D} (h1 : Rep g F (.ref b) kd) (h2 : nkT kd = some k) (h3 : Rep g F v d) {ents : List (NestedKey × Addr × V)} {es : List (D × D)} (h : RepN g F ents es) : RepN g F (putN ents k b v) (putEN es k kd d) := by
  unfold putN putEN
  rw [h.isSome k]
  split
  · exact h.setAll k h3
  · exact h.snoc h1 h2 h3
end
end RW
namespace RW
open PySem L2
section
variable {g : G} {X : Cx}
theorem Keep.mergeO {F0 F H0 H Γ : Hp} {s0 s : S g.R.S} {σ0 σ : St} (K : Keep g F0 s0 σ0 H0 F s σ H) (hf : ∀ a o, Γ a = some o → H0 a = none ∨ Own σ0 s0.e a) (le : Le F (un F Γ)) : Keep g F0 s0 σ0 H0 (un F Γ) s σ H :=
  ⟨K.heap, K.grow.trans le, (fun a o h nt r n => by
    cases z : Γ a with
    | none => rw [un_out z]; exact K.nof a o h nt r n
    | some u =>
      rcases hf a u z with y | y
      · rw [y] at h; cases h
      · exact absurd y n), K.own, K.there⟩
def two (a : Addr) (oa : HO) (q : Addr) (oq : HO) : Hp := upd (upd (fun _ => none) q oq) a oa
theorem two_a {a q : Addr} {oa oq : HO} : two a oa q oq a = some oa := upd_same
theorem two_q {a q : Addr} {oa oq : HO} (h : a ≠ q) : two a oa q oq q = some oq := by unfold two; rw [upd_ne (Ne.symm h), upd_same]
theorem two_at {a q b : Addr} {oa oq o : HO} (h : two a oa q oq b = some o) : (b = a ∧ o = oa) ∨ (b = q ∧ o = oq) := by
  unfold two at h
  by_cases z : b = a
  · rw [z, upd_same] at h; cases h; exact .inl ⟨z, rfl⟩
  · rw [upd_ne z] at h
    by_cases y : b = q
    · rw [y, upd_same] at h; cases h; exact .inr ⟨y, rfl⟩
    · rw [upd_ne y] at h; cases h
structure NSt (g : G) (i : Nat) (tb : Str) (F : Hp) (s : S g.R.S) (σ : St) (H : Hp) (a q : Addr) (kv0 kvq : List (Key × V)) (es et : List (D × D)) : Prop where
  im : Sim g F s σ H
  ei : s.e[i]? = some none
  si : σ[i]? = some (some (.ref a))
  gs : Gst g F s.e σ H (two a (.dK (putK kv0 (.inr tb) (.ref q))) q (.dK kvq))
  ne : a ≠ q
  r0 : RepK g F kv0 es
  rq : RepK g F kvq et
section
variable {i : Nat} {tb : Str} {F : Hp} {s : S g.R.S} {σ : St} {H : Hp} {a q : Addr} {kv0 kvq : List (Key × V)} {es et : List (D × D)}
theorem NSt.keep (N : NSt g i tb F s σ H a q kv0 kvq es et) {F1 H1 : Hp} {s1 : S g.R.S} {σ1 : St} (I1 : Sim g F1 s1 σ1 H1) (K : Keep g F s σ H F1 s1 σ1 H1) (e : s1.e[i]? = some none) (h : σ1[i]? = σ[i]?) : NSt g i tb F1 s1 σ1 H1 a q kv0 kvq es et :=
  ⟨I1, e, by rw [h]; exact N.si, N.gs.keep K, N.ne, N.r0.mono K.grow, N.rq.mono K.grow⟩
theorem NSt.get (N : NSt g i tb F s σ H a q kv0 kvq es et) : DGet H a (.str tb) (some (.ref q)) := by
  have := DGet.k (k := .inr tb) (N.gs.at_ a _ two_a)
  rw [valV_put] at this
  have h : DGet H a (kV (.inr tb)) (some (.ref q)) := by simpa using this
  exact h
theorem NSt.done (N : NSt g i tb F s σ H a q kv0 kvq es et) {F0 H0 : Hp} {s0 : S g.R.S} {σ0 : St} (K : Keep g F0 s0 σ0 H0 F s σ H) (ha : H0 a = none ∨ Own σ0 s0.e a) (hq : H0 q = none) : ∃ F', Sim g F' ⟨s.e.set i (some ⟨.dct false (putE es (.str tb) (.dct false et)), false⟩), s.r⟩ σ H ∧ Keep g F0 s0 σ0 H0 F' ⟨s.e.set i (some ⟨.dct false (putE es (.str tb) (.dct false et)), false⟩), s.r⟩ σ H := by
  have le := N.gs.le
  refine ⟨_, (N.gs.merge N.im).setSh N.si (.ref (un_in two_a) (.dK ((N.r0.mono le).put (.inr tb) (.ref (un_in (two_q N.ne)) (.dK (N.rq.mono le)))))), ?_⟩
  have K1 := K.mergeO (fun b o h => by
    rcases two_at h with ⟨rfl, _⟩ | ⟨rfl, _⟩
    · exact ha
    · exact .inl hq) le
  exact ⟨K1.heap, K1.grow, K1.nof, fun b z => K1.own b (own_sh z), K1.there⟩
end
end
end RW
namespace RW
open PySem L2
section
variable {g : G} {X : Cx}
def kdN : D → Nat
  | .non => 0
  | .bl _ => 1
  | .int _ => 2
  | .str _ => 3
  | _ => 4
mutual
def apart : D → D → Bool
  | .lst xs, d => (match d with
    | .lst ys => apartL xs ys
    | d => decide (kdN d ≠ 4))
  | .tup (x :: xs), d => (match d with
    | .tup (y :: ys) => apart x y || apartL xs ys
    | d => decide (kdN d ≠ 4))
  | d, d' => decide (kdN d ≠ kdN d')
def apartL : List D → List D → Bool
  | [], [] => false
  | [], _ :: _ => true
  | _ :: _, [] => true
  | x :: xs, y :: ys => apart x y || apartL xs ys
end
end
end RW
namespace RW
open PySem L2
section
variable {g : G} {X : Cx}
structure PSt (g : G) (ip : Nat) (F : Hp) (s : S g.R.S) (σ : St) (H : Hp) (t : Addr) (kvs : List (Key × V)) (ads : List Addr) (es : List (D × D)) (Γ : Hp) : Prop where
  im : Sim g F s σ H
  ei : s.e[ip]? = some none
  si : σ[ip]? = some (some (.ref t))
  gs : Gst g F s.e σ H Γ
  gt : Γ t = some (.dK kvs)
  nd : (t :: ads).Nodup
  it : ItB g F Γ kvs ads es
section
variable {ip : Nat} {F : Hp} {s : S g.R.S} {σ : St} {H : Hp} {t : Addr} {kvs : List (Key × V)} {ads : List Addr} {es : List (D × D)} {Γ : Hp}
theorem PSt.keep (N : PSt g ip F s σ H t kvs ads es Γ) {F1 H1 : Hp} {s1 : S g.R.S} {σ1 : St} (I1 : Sim g F1 s1 σ1 H1) (K : Keep g F s σ H F1 s1 σ1 H1) (e : s1.e[ip]? = some none) (h : σ1[ip]? = σ[ip]?) : PSt g ip F1 s1 σ1 H1 t kvs ads es Γ :=
  ⟨I1, e, by rw [h]; exact N.si, N.gs.keep K, N.gt, N.nd, N.it.mono K.grow fun _ _ => rfl⟩
end
end
end RW
set_option maxHeartbeats 4000000
namespace RW
open PySem L2 PySem.W PySem.Spec PyProof.Rows
section
variable {prog : Program} {w : World} {A : Around} {E : Value → Shared → Prop} {h : Heap} {g : Array GenState} {d : Drawn} {t : Nat} {os : OsState}
variable {nm q : Str} {C N : Addr} {bs bm : List Value} {hdct : Bool} {sn : List Str} {sub : List Value} {ab : Bool} {col : Option Bool} {dd : Option Addr} {k0 k1 k2 k3 k5 : Option Value}
theorem er_mw {u e t0 : Addr} {rest : List Value} {Q : Value → Shared → Prop}
    (hC : h.get? C = some (excClassObj nm q C N bs bm hdct sn sub ab col dd k0 k1 k2 k3 k5 "ValueError.__new__")) (he : h.get? e = some (HandSPX.excO C t0)) (hu : h.get? u = some (kxs_mw "ValueError.__init__" e)) (hrest : rest.length ≤ sizeLine)
    (hq : ∀ h' t1, (∀ b o, b ≠ e → h.get? b = some o → h'.get? b = some o) → h'.get? e = some (HandSPX.excO C t1) → Q .none ⟨h', g, d, t, os⟩) :
    wpAny (model prog w) A (call (.ref u) rest) Q E ⟨h, g, d, t, os⟩ := by
  refine wpAny_call (codeAny_of_tree ?_)
  show wpAny _ A.in1 (callAny (.ref u) ⟨rest, []⟩) _ _ _
  simp only [callAny]
  refine wpAny_bind (wpAny_load hu ?_)
  simp only [kxs_mw, show (Value.type "method-wrapper" == Value.type "method" || Value.type "method-wrapper" == Value.type "builtin_function_or_method" || Value.type "method-wrapper" == Value.type "method-wrapper") = true by decide, if_true]
  refine KFB.if_so (by decide) ?_
  refine wpAny_bind (check_bound_init F.excBase_ValueError.toExcCallFacts hC he rfl ?_)
  refine wpAny_bind (wpAny_pure (wpAny_pure ?_))
  refine ⟨plainId_quiet F.excBase_ValueError.init.plain _, codeAny_builtin F.excBase_ValueError.initEntry ?_⟩
  exact exc_init_tree (cls := .ref C) (t0 := t0) (dv := none) (c2 := .none) (c3 := .none) (b4 := .bool false) he hrest fun h' k e' _ => hq h' _ k e'
end
structure InitF (K : Frag) (prog : Program) (C fI : Addr) (p f : Str) (fd : FuncData) : Prop where
  lk : ∃ oc od osl, K.lookup fI = some ⟨oc, od, .func fd, osl⟩
  body : ∃ q0 q1 q2 q3 q4 q5 q6 q7 q8 q9 : Pos, (q2.endLine == q4.line) = true ∧ fd.body = .stmts [.Expr (.Call (.Attribute (.Call (.Name "super" q0) [] [] q1) "__init__" q2) [.Name p q3] [] q4) q5, .Assign [.Attribute (.Name "self" q6) f q7] (.Name p q8) q9]
  glob : fd.globals = mainGlobals
  blt : fd.builtins = builtinsNs
  kind : fd.scope.kind = .function
  co : fd.scope.isCoroutine = false
  gen : fd.scope.isGenerator = false
  nocell : ∀ x ∈ fd.scope.names, x.2 ≠ .cell
  self_ : fd.scope.names.lookup ("self" : Str) = some .local
  par : fd.scope.names.lookup p = some .local
  sup : fd.scope.names.lookup ("super" : Str) = some .globalImplicit
  clsn : fd.scope.names.lookup ("__class__" : Str) = some .free
  onlyf : ∀ x, fd.scope.names.lookup x = some .free → x = "__class__"
  head : ∃ ar, (fd.params.posonlyargs ++ fd.params.args).head? = some ar ∧ ar.arg = "self"
  clo : ∃ (cc : Addr) (oc : Obj), fd.closure = [(("__class__" : Str), cc)] ∧ K.lookup cc = some oc ∧ oc.data = .cell (some (.ref C))
  code : ∃ cd oc vs file tf, fd.code = .ref cd ∧ K.lookup cd = some oc ∧ oc.data = .fields vs ∧ vs[2]? = some (.str file tf) ∧ ((prog.main.file : Str) == file) = true
  rec_ : codeIn K fd.code fd.qualname = true
  top : (prog.main.scope.names.lookup ("super" : Str)).isSome = false
  ne : p ≠ "self"
  nd : (p == ("__debug__" : Str)) = false
  nc : (p == ("__classdict__" : Str)) = false
abbrev inEnv (fd : FuncData) (L fI : Addr) : Env := callEnv fd L fI
def inCx (CX : CXT) (P : Program) (w : World) (K : Frag) (mg : Str → Option Value) (base : Heap) (p : Str) (fd : FuncData) (fI : Addr) (A : Around) (outer : List Env) (s : Shared) (H : Hp) (E : XK) : Cx where
  prog := P
  w := w
  K := K
  mg := mg
  base := base
  A := A.deeper (inEnv fd s.heap.objs.size fI)
  N := ["self", p]
  s_0 := s
  H_0 := H
  env := inEnv fd s.heap.objs.size fI
  outer := outer
  stack := inEnv fd s.heap.objs.size fI :: outer
  ex := []
  calm := true
  fn := fun _ => false
  pn := []
  xe := fun e s' => wpAny (model P w) (A.deeper (inEnv fd s.heap.objs.size fI)) (leaving (inEnv fd s.heap.objs.size fI) e) (fun _ s'' => CX outer H s E e s'') (fun e' s'' => CX outer H s E e' s'') s'
section
variable {CX : CXT} {P : Program} {w : World} {K : Frag} {mg : Str → Option Value} {base : Heap} {p f : Str} {fd : FuncData} {fI C : Addr} {A : Around} {outer : List Env} {s : Shared} {H : Hp} {E : XK}
theorem in_start (T : InitF K P C fI p f fd) (hd : A.handled = none) (e0 : Env0 P w K mg base A outer s H) {h₀ : Heap} {u0 u1 : Value} {v0 v1 : V}
    (hns : h₀.Ns s.heap.objs.size (fun x => ([("self", u0), (p, u1)] : List (Str × Value)).reverse.lookup x)) (kp : ∀ b o, s.heap.get? b = some o → h₀.get? b = some o) (r0 : RelV v0 u0) (r1 : RelV v1 u1) (tk : Nat) :
    Inv (inCx CX P w K mg base p fd fI A outer s H E) [] [some v0, some v1] H { s with heap := h₀, toks := tk } := by
  obtain ⟨cc, oc, hcl, hcc, hco⟩ := T.clo
  have cells : ∀ {y c}, (inEnv fd s.heap.objs.size fI).cells.lookup y = some c → y = "__class__" ∧ c = cc := fun {y c} e => by
    have e : fd.closure.lookup y = some c := e
    rw [hcl] at e
    by_cases hy : y = "__class__"
    · subst hy
      simp [List.lookup] at e
      exact ⟨rfl, e.symm⟩
    · have hb : (y == ("__class__" : Str)) = false := by simpa using hy
      simp [List.lookup, hb] at e
  have KB : K.In base := e0.mod.kin
  have bcc := KB _ _ hcc
  have scc := e0.bs _ _ bcc
  have noA : ∀ b : Addr, b ∉ (inCx CX P w K mg base p fd fI A outer s H E).ex := fun b z => absurd (show b ∈ ([] : List Addr) from z) (by simp)
  refine ⟨⟨e0.mod, T.kind, T.glob, T.blt, Nat.le_refl _, fun y z c h1 h2 => ?_, fun y hy => ?_, fun y c z _ => ?_, fun _ => hd, Around.frames_deeper e0.frames, .inr ⟨rfl, rfl⟩, fun b z => absurd z (noA b), e0.bs, e0.bsz, fun b _ _ => noA b, fun b z => absurd z (noA b), e0.funs, e0.frf⟩,
    rfl, e0.bare, Un.kept kp, ⟨_, hns, fun i y v h1 h2 h3 => ?_⟩, fun y c h => ?_, e0.hok.fresh (Nat.le_refl _), fun y c h => ?_, fun q hq => absurd (show q ∈ ([] : List (Addr × Obj)) ++ [] from hq) (by simp), e0.hok.kept kp, rfl⟩
  · exact (cells h1).1.trans (cells h2).1.symm
  · have hy : fd.scope.names.lookup y = some .cell ∨ fd.scope.names.lookup y = some .free := hy
    rcases hy with hy | hy
    · exact absurd rfl (T.nocell _ (PySem.mem_of_lookup hy))
    · refine ⟨cc, ?_⟩
      show fd.closure.lookup y = some cc
      rw [hcl, T.onlyf y hy]
      simp [List.lookup]
  · have z : false = true := z
    cases z
  · have hne : ((p : Str) == ("self" : Str)) = false := by simpa using T.ne
    have hne2 : (("self" : Str) == p) = false := by simpa using T.ne.symm
    match i, h1, h2 with
    | 0, h1, h2 =>
      have h1 : some ("self" : Str) = some y := h1
      have h2 : some (some v0) = some (some v) := h2
      cases h1; cases h2
      refine ⟨u0, r0, .inl ⟨T.self_, ?_⟩⟩
      simp [List.lookup, hne2]
    | 1, h1, h2 =>
      have h1 : some p = some y := h1
      have h2 : some (some v1) = some (some v) := h2
      cases h1; cases h2
      refine ⟨u1, r1, .inl ⟨T.par, ?_⟩⟩
      simp [List.lookup]
    | (n + 2), h1, h2 =>
      have h1 : (([] : List Str)[n]?) = some y := h1
      simp at h1
  · obtain ⟨rfl, rfl⟩ := cells h
    exact ⟨_, oc, kp _ _ scc.1, hco⟩
  · obtain ⟨rfl, rfl⟩ := cells h
    exact scc.2
def spInit (C : Addr) (f : Str) : Sp := fun vs H Q _ => ∃ (a : Addr) (v : V), vs = [.ref a, v] ∧ H a = some (exo a C none) ∧ ∀ dx, H dx = none → dx ≠ a → Q .non (upd (upd H dx (exd dx [(f, v)])) a (exo a C (some dx)))
theorem er_ldv {X : Cx} {pins : List (Addr × Obj)} {σ : L2.St} {i : Nat} {x : Str} {v : V} {Q : Value → Shared → Prop} {EE : Value → Shared → Prop} (I : Inv X pins σ H s) (hN : X.N[i]? = some x) (e : σ[i]? = some (some v)) (hv : X.env.scope.names.lookup x = some .local) (h : ∀ u, RelV v u → Q u s) :
    wpAny (model X.prog X.w) X.A (loadName X.env x) Q EE s := by
  obtain ⟨m, hn, hl⟩ := I.loc
  obtain ⟨u, r, l⟩ := hl i x v hN e (.inl hv)
  have fin : Q u s := h u r
  rcases l with ⟨hk, hm⟩ | ⟨hk, c, hc, hcell⟩
  · exact wpAny_loadName_local I.ok.kind hk hn hm fin
  · have hv' : X.env.kindOf x = some .local := hv
    rw [hv'] at hk
    rcases hk with hk | hk <;> cases hk
theorem fn_excinit {k : Nat} (T : InitF K P C fI p f fd) (O : OexC K C) (hm : mg "super" = none) (hop : nsIn K cStatics "thirdparty.any" = some none) (hno : findIn K (.ref C) f = some none)
    (hal : ∃ cd, clsIn K C = some cd ∧ alongIn K "__init__" ((cd.mro.dropWhile (· != .ref C)).drop 1) = some (some (.builtin "ValueError.__init__"))) (hVE : subIn K (.ref C) (.type "ValueError") = some true) (hCC : subIn K (.ref C) (.ref C) = some true) :
    FnOk P w K mg base CX (k + 1) fI fd ["self", p] (spInit C f) := by
  refine ⟨fun vs H Q E ⟨a, v, e, _⟩ => by rw [e]; rfl, fun A outer s H args us vs Q E hr e0 hb r hsp => ?_⟩
  obtain ⟨a, v, rfl, ha, hq⟩ := hsp
  cases r with
  | @cons _ u0 _ us' r0 r' =>
  cases r' with
  | @cons _ u1 _ us'' r1 r'' =>
  cases r''
  obtain rfl : u0 = Value.ref a := r0
  have KX : K.In s.heap := e0.mod.kin.keeps fun b o e => (e0.bs b o e).1
  have lim : s.heap.NoLimit := e0.mod.nolimit.keeps fun b o e => (e0.bs b o e).1
  obtain ⟨oc0, od0, osl0, lk⟩ := T.lk
  obtain ⟨q0, q1, q2, q3, q4, q5, q6, q7, q8, q9, hline, hbody⟩ := T.body
  have hloc : ∀ x ∈ (["self", p] : List Str).zip [Value.ref a, u1], fd.scope.names.lookup x.1 = some .local := fun x hx => by
    have hx : x ∈ [(("self" : Str), Value.ref a), (p, u1)] := hx
    rcases List.mem_cons.mp hx with e | hx
    · rw [e]; exact T.self_
    · rcases List.mem_cons.mp hx with e | hx
      · rw [e]; exact T.par
      · cases hx
  refine ks_codeAny_call_defAt hr.depth (KX _ _ lk) rfl lim (codeRec_of KX T.rec_) hbody hb T.nocell hloc (fun h₀ hns kp => ?_) T.co T.gen T.kind
  have I0 : Inv (inCx CX P w K mg base p fd fI A outer s H E) [] [some (.ref a), some v] H { s with heap := h₀, toks := s.toks + ((["self", p] : List Str).zip [Value.ref a, u1]).length } := in_start (v0 := .ref a) T hr.hd e0 hns kp (show L2.RelV (V.ref a) (Value.ref a) from rfl) r1 _
  obtain ⟨ar, hp1, hp2⟩ := T.head
  obtain ⟨cd, oc, vs, file, tf, hc1, hc2, hc3, hc4, hc5⟩ := T.code
  obtain ⟨cc, occ, hcl, hcc, hco⟩ := T.clo
  obtain ⟨cdC, hcd, hal⟩ := hal
  obtain ⟨nm, qn, N, bs, bm, sn, sub, ab, col, dd, k0, k1, k2, k3, k5, hC, hbm⟩ := O.cls
  have K0 : K.In h₀ := KX.keeps kp
  obtain ⟨t1, ho⟩ := exo_at I0.hok ha
  have ho : h₀.get? a = some (HandSPX.excO C t1) := ho
  have hks : (inEnv fd s.heap.objs.size fI).kindOf "super" = some .globalImplicit := T.sup
  have hkc : (inEnv fd s.heap.objs.size fI).kindOf "__class__" = some .free := T.clsn
  have hev : eval (.Call (.Attribute (.Call (.Name "super" q0) [] [] q1) "__init__" q2) [.Name p q3] [] q4) (inEnv fd s.heap.objs.size fI) = (do
      let ov ← attributeBase (.Call (.Name "super" q0) [] [] q1) "__init__" (inEnv fd s.heap.objs.size fI) (eval (.Call (.Name "super" q0) [] [] q1) (inEnv fd s.heap.objs.size fI))
      standAt q2.atName
      let (f, first) ← holding [ov] (getMethod ov "__init__" (do return (← importBound (.Call (.Name "super" q0) [] [] q1) (inEnv fd s.heap.objs.size fI)).getD true))
      callWith q4 f first (backTo q4 (starEach [.Name p q3] (inEnv fd s.heap.objs.size fI))) []) := by
    show (do
      let ov ← attributeBase (.Call (.Name "super" q0) [] [] q1) "__init__" (inEnv fd s.heap.objs.size fI) (eval (.Call (.Name "super" q0) [] [] q1) (inEnv fd s.heap.objs.size fI))
      standAt q2.atName
      let (f, first) ← holding [ov] (getMethod ov "__init__" (do return (← importBound (.Call (.Name "super" q0) [] [] q1) (inEnv fd s.heap.objs.size fI)).getD true))
      let callPos ← methodCallPos true (.Call (.Name "super" q0) [] [] q1) (inEnv fd s.heap.objs.size fI) q2 q4
      callWith callPos f first (backTo q4 (starEach [.Name p q3] (inEnv fd s.heap.objs.size fI))) []) = _
    have e1 : methodCallPos true (.Call (.Name "super" q0) [] [] q1) (inEnv fd s.heap.objs.size fI) q2 q4 = pure q4 := by
      unfold methodCallPos
      rw [hline]; rfl
    rw [e1]
    simp only [pure_bind]
  have hint : interactive (inEnv fd s.heap.objs.size fI) = false := by
    unfold interactive
    rw [show (inEnv fd s.heap.objs.size fI).scope.kind = .function from T.kind]
    rfl
  refine ks_wpAt_execs_cons (ks_wpAt_Expr_any (hi := hint) (ks_wpAt_MethodCall (he := hev) (ks_wpAt_super_base hks hkc (by decide) rfl (K0 _ _ lk) rfl hp1 hc1 (K0 _ _ hc2) hc3 hc4 hc5 T.top ?_)))
  have hg : Gl (inCx CX P w K mg base p fd fI A outer s H E) "super" := hks
  have hkind : (inEnv fd s.heap.objs.size fI).scope.kind = .function := T.kind
  obtain ⟨mb, hb1, hb2⟩ := e0.mod.blt
  have ldS : ∀ {Q : Value → Shared → Prop} {EE : Value → Shared → Prop}, Q (.type "super") { s with heap := h₀, toks := s.toks + ((["self", p] : List Str).zip [Value.ref a, u1]).length } → wpAny (model P w) (A.deeper (inEnv fd s.heap.objs.size fI)) (loadName (inEnv fd s.heap.objs.size fI) "super") Q EE { s with heap := h₀, toks := s.toks + ((["self", p] : List Str).zip [Value.ref a, u1]).length } := fun {Q EE} q => by
    unfold loadName
    simp only [Env.blockKind, hkind, hks, ScopeKind.isAnnotationScope, Bool.false_and, Bool.false_eq_true, if_false]
    exact Calls.loadGlobal_builtin (by rw [show (inEnv fd s.heap.objs.size fI).globals = mainGlobals from T.glob]; exact I0.mod.glob.keeps I0.bk) hm (by rw [show (inEnv fd s.heap.objs.size fI).builtins = builtinsNs from T.blt]; exact hb1.keeps I0.bk) ((hb2 "super" (by decide)).trans (by rfl)) q
  have cellC : h₀.IsCell cc (some (.ref C)) := ⟨occ, K0 _ _ hcc, hco⟩
  have hcc2 : (inEnv fd s.heap.objs.size fI).cells.lookup ("__class__" : Str) = some cc := by
    show fd.closure.lookup _ = _
    rw [hcl]
    simp [List.lookup]
  refine ldS ⟨rfl, wpAny_loadName_free hkind hkc hcc2 cellC ?_ (by decide)⟩
  rw [hp2]
  refine er_ldv (i := 0) (x := "self") (v := .ref a) I0 rfl rfl T.self_ fun uS rS => ?_
  obtain rfl : uS = Value.ref a := rS
  have hCo := K0 _ _ hC
  refine ks_wpAny_isType_cls hCo rfl ⟨rfl, ?_⟩
  have IA : InstAt h₀ a (HandSPX.excO C t1) C none := ⟨ho, rfl, rfl, trivial⟩
  refine ks_wpAny_call_super hCo rfl ho rfl (fun c z => by cases z) (looks_subIn K0 hCC) fun h2 hso k2 => ?_
  have K2 : K.In h2 := K0.keeps k2
  have IA2 : InstAt h2 a (HandSPX.excO C t1) C none := ⟨k2 _ _ ho, rfl, rfl, trivial⟩
  refine kxs_getMethod kxs_ValueError hso (looks_opaque K2 hop) (l₀ := cdC.mro) (fun A Q E s k q => wpAny_bind ((looks_clsIn K2 hcd) A _ E s k (wpAny_pure q))) rfl K2 hal (IA2.type.andThen (looks_subIn K2 hVE)) (ks_ne K2 IA2 hcd) (by decide) ?_
  dsimp only
  refine kxs_callWith (i := "ValueError.__init__") (x := a) (by rfl) (Calls.evalArgs_plain ?_)
  have k3 : ∀ b o, h₀.get? b = some o → (h2.push (kxs_mw "ValueError.__init__" a)).get? b = some o := fun b o e => Heap.get?_push_of_some _ (k2 b o e)
  have I3 : ∀ tk : Nat, Inv (inCx CX P w K mg base p fd fI A outer s H E) [] [some (.ref a), some v] H { s with heap := h2.push (kxs_mw "ValueError.__init__" a), toks := tk } := fun tk => I0.kept k3
  refine Calls.spliced_cons (wpAny_Name (er_ldv (i := 1) (x := p) (v := v) (I3 _) rfl rfl T.par fun uP rP => ?_) T.nd)
  refine Calls.spliced_nil ⟨Heap.get?_push_size h2 rfl, ?_⟩
  refine er_mw (e := a) (rest := [uP]) ((K2.keeps fun b o e => Heap.get?_push_of_some _ e) _ _ hC) (k3 _ _ ho) (Heap.get?_push_size h2 rfl) (by rw [sizeLine_eq]; show 1 ≤ 16777216; decide) fun h4 t4 k4 hx4 => ?_
  have J := (I3 (s.toks + ((["self", p] : List Str).zip [Value.ref a, u1]).length + 1)).write (t' := s.toks + ((["self", p] : List Str).zip [Value.ref a, u1]).length + 1) (x := a) (e := a) (o := exo a C none) (by rw [ha]; exact True.intro) (.inl rfl) k4 ⟨_, hx4⟩ (exo_ok hx4)
  have eu : upd H a (exo a C none) = H := by
    funext b
    by_cases hb : b = a
    · rw [hb, upd_same, ha]
    · rw [upd_ne hb]
  rw [eu] at J
  refine wpAt_of_wpAny ?_
  have PO : PSs (inCx CX P w K mg base p fd fI A outer s H E) [.Assign [.Attribute (.Name "self" q6) f q7] (.Name p q8) q9] _ := pss_one (ps_ost (pe_var (i := 0) rfl (.inl T.self_)) (pe_var (i := 1) rfl (.inl T.par) T.nd T.nc))
  refine wpAny_mono (PO.run [] _ [some (.ref a), some v] H { nx := fun _ H' => Q .non H', rt := Q } J ⟨v, rfl, .ref a, rfl, a, C, rfl, O, hno, .inl ⟨ha, hq⟩⟩) (fun fl s' hs => ?_) fun e s' hs => hs
  cases fl with
  | ret u =>
    obtain ⟨v, σ', H', J, rv, q⟩ := hs
    exact ⟨v, H', J.os, J.bare, J.base, J.hok, rv, q⟩
  | next =>
    obtain ⟨σ', H', J, q⟩ := hs
    exact ⟨V.non, H', J.os, J.bare, J.base, J.hok, rfl, q⟩
  | brk =>
    obtain ⟨_, _, _, q⟩ := hs
    exact False.elim q
  | cont =>
    obtain ⟨_, _, _, q⟩ := hs
    exact False.elim q
end
end RW
namespace RW
open PySem L2
inductive Rz (α : Type) where
  | ok (a : α) | er (c : Nat) (fs : List (Str × D))
abbrev FmX (R : Type) := List D → R → Option (Rz Vr × R)
def ErrAt (g : G) (F : Hp) (c : Nat) (fs : List (Str × D)) (cls : Value) (d : Option Addr) : Prop :=
  cls = .ref (g.cls c) ∧ ((fs = [] ∧ d = none) ∨ ∃ dx vs, d = some dx ∧ F dx = some (.xd vs) ∧ RepF g F vs fs)
theorem ErrAt.mono {g : G} {F F' : Hp} {c : Nat} {fs : List (Str × D)} {cls : Value} {d : Option Addr} (le : Le F F') (h : ErrAt g F c fs cls d) : ErrAt g F' c fs cls d := by
  obtain ⟨h1, h2 | ⟨dx, vs, h2, h3, h4⟩⟩ := h
  · exact ⟨h1, .inl h2⟩
  · exact ⟨h1, .inr ⟨dx, vs, h2, le _ _ h3, RepF.mono le h4⟩⟩
section
variable {g : G} {X : Cx} {W : WX}
theorem PA.nox {es : List Expr} {t : TA} (h : PA X.nox es t) : PA X es t := ⟨fun pos pins s σ H Q I hw =>
  wpAny_mono (h.run pos pins s σ H Q (I.wish _) hw) (fun _ _ ⟨v, H', I', r, q⟩ => ⟨v, H', I'.unwish, r, q⟩) fun _ _ z => False.elim z⟩
theorem PS.nox {st : Stmt} {t : TS} (h : PS X.nox st t) : PS X st t := ⟨fun pins s σ H D I hw =>
  wpAny_mono (h.run pins s σ H D (I.wish _) hw) (fun _ _ q => q.unwish) fun _ _ z => False.elim z⟩
def OX (g : G) (W : WX) (F : Hp) (s : S g.R.S) (σ : L2.St) (H : Hp) (s' : S g.R.S) (c : Nat) (fs : List (Str × D)) : Prop :=
  ∀ F' σ' H' cls d, Sim g F' s' σ' H' → Keep g F s σ H F' s' σ' H' → ErrAt g F' c fs cls d → W cls d σ' H'
theorem OX.base {F F1 : Hp} {s s1 s' : S g.R.S} {σ σ1 : L2.St} {H H1 : Hp} {c : Nat} {fs : List (Str × D)} (K : Keep g F s σ H F1 s1 σ1 H1) (o : OX g W F s σ H s' c fs) : OX g W F1 s1 σ1 H1 s' c fs :=
  fun F' σ' H' cls d I' K' x => o F' σ' H' cls d I' (K.trans K' I') x
def OutX (g : G) (W : WX) (E : Ends) (F : Hp) (s : S g.R.S) (σ : L2.St) (H : Hp) (s' : S g.R.S) : Rz Fl → Prop
  | .ok fl => Out g E F s σ H s' fl
  | .er c fs => OX g W F s σ H s' c fs
theorem OutX.base {E : Ends} {F F1 : Hp} {s s1 s' : S g.R.S} {σ σ1 : L2.St} {H H1 : Hp} {fl : Rz Fl} (K : Keep g F s σ H F1 s1 σ1 H1) (o : OutX g W E F s σ H s' fl) : OutX g W E F1 s1 σ1 H1 s' fl := by
  cases fl with
  | ok fl => exact Out.base K o
  | er c fs => exact OX.base K o
structure OEx (g : G) (P : Program) (c : Nat) (f p : Str) : Prop where
  O : OexC g.K (g.cls c)
  I : ∃ fI fd, PySem.W.findIn g.K (.ref (g.cls c)) "__init__" = some (some (.ref fI)) ∧ PySem.W.typeIn g.K (.ref fI) = some (.type "function") ∧ InitF g.K P (g.cls c) fI p f fd ∧ (∀ u0 u1, bindArgs fd ⟨[u0, u1], []⟩ = pure ((["self", p] : List Str).zip [u0, u1])) ∧ ∀ u0 u1, bindArgs fd ⟨[u0], [(p, u1)]⟩ = pure ((["self", p] : List Str).zip [u0, u1])
  hop : PySem.W.nsIn g.K cStatics "thirdparty.any" = some none
  hno : PySem.W.findIn g.K (.ref (g.cls c)) f = some none
  hal : ∃ cd, PySem.W.clsIn g.K (g.cls c) = some cd ∧ PySem.W.alongIn g.K "__init__" ((cd.mro.dropWhile (· != .ref (g.cls c))).drop 1) = some (some (.builtin "ValueError.__init__"))
  hVE : PySem.W.subIn g.K (.ref (g.cls c)) (.type "ValueError") = some true
  hCC : PySem.W.subIn g.K (.ref (g.cls c)) (.ref (g.cls c)) = some true
end
end RW
namespace RW
open PySem L2
open PyProof.Rows (envOfC)
def RzOk (g : G) (F H0 : Hp) (Q : VK) (E : XK) (r' : g.R.S) : Rz Vr → Prop
  | .ok res => ∀ F' v H', Left g F H0 F' H' r' → ROk g F' H0 H' res v → Q v H'
  | .er c fs => ∀ F' H' cls d, Left g F H0 F' H' r' → ErrAt g F' c fs cls d → E cls d H'
def spX (g : G) (n : Nat) (mf : FmX g.R.S) : Sp := fun vs H Q E => ∃ F r ds res r', Sub F H ∧ g.R.At r H ∧ (∀ a, g.R.foot a → F a = none) ∧ RepAll g F vs ds ∧ ds.length = n ∧ mf ds r = some (res, r') ∧ RzOk g F H Q E r' res
structure FnGX (P : Program) (w : World) (K : PySem.W.Frag) (mg : Str → Option Value)
    (base : Heap) (k : Nat) (f : Addr) (fd : FuncData) (ps : List Str) (sp : Sp) : Prop where
  len : ∀ vs H Q E, sp vs H Q E → vs.length = ps.length
  go : ∀ {A : Around} {outer : List Env} {s : Shared} {H : Hp} {args : Args} {us : List Value} {vs : List V} {Q : VK} {E : XK},
    Room k A → A.guards = some [] → Env0 P w K mg base A outer s H →
    BindsTo s fd args (ps.zip us) → Vals vs us → sp vs H Q E →
    codeAny (model P w) A (.call (.ref f) args) (CR (L2.CX P w) outer P w H s Q E) s
section
variable {P : Program} {w : World} {K : PySem.W.Frag} {mg : Str → Option Value} {base : Heap} {j k : Nat} {f : Addr} {fd : FuncData} {ps : List Str} {sp : Sp}
theorem FnGX.mono (F : FnGX P w K mg base j f fd ps sp) (h : j ≤ k) : FnGX P w K mg base k f fd ps sp :=
  ⟨F.len, fun hr => F.go (hr.mono h)⟩
end
section
variable {g : G} {P : Program} {w : World} {mg : Str → Option Value} {base : Heap}
structure FuX (g : G) (P : Program) (w : World) (mg : Str → Option Value) (base : Heap) (k : Nat) (x qual : Str) (st : Stmt) (ps : List Str) (mf : FmX g.R.S) (f : Addr) : Prop where
  ex : ∃ fd, FnP g.K x qual st f fd ∧ FnGX P w g.K mg base k f fd ps (spX g ps.length mf) ∧ Binds g.K fd ps []
theorem FuX.mono {j k : Nat} {x qual : Str} {st : Stmt} {ps : List Str} {mf : FmX g.R.S} {f : Addr} (h : FuX g P w mg base j x qual st ps mf f) (hk : j ≤ k) : FuX g P w mg base k x qual st ps mf f := by
  obtain ⟨fd, h1, h2, h3⟩ := h
  exact ⟨fd, h1, h2.mono hk, h3⟩
end
section
variable {g : G} {X : Cx} {W : WX}
theorem FnGX.goB {pins : List (Addr × Obj)} {σ : L2.St} {H : Hp} {s : Shared} {Q : VK} {us : List Value} {vs : List V} {k : Nat} {f : Addr} {fd : FuncData} {ps : List Str} {sp : Sp}
    (F : FnGX X.prog X.w X.K X.mg X.base k f fd ps sp) (tk : Takes X W) (hr : Room k X.A) (hg : X.A.guards = some []) (hb : Binds X.K fd ps []) (I : Inv X pins σ H s)
    (r : Vals vs us) (h : sp vs H Q (fun cls d H' => W cls d σ H')) : wpAny (model X.prog X.w) X.A (call (.ref f) us) (EP X pins σ Q) X.xe s := by
  have hl : (us ++ []).length = ps.length := by rw [List.append_nil, ← r.length]; exact F.len _ _ _ _ h
  have b := hb s us I.kIn hl
  rw [List.append_nil] at b
  refine wpAny_call (codeAny_mono (F.go hr hg I.env0 b r h) ?_)
  intro r s' hq
  match r, hq with
  | .ok (.ret u), hq => exact I.after hq
  | .error e, hq => exact tk e s' (XE.of_call (E := fun cls d H' => W cls d σ H') I (fun _ _ _ h => h) hq)
end
end RW
namespace RW
open PySem L2
section
variable {g : G} {X : Cx} {W : WX}
theorem PI.nox {tg iter : Expr} {t : TI} (h : PI X.nox tg iter t) : PI X tg iter t := by
  refine ⟨fun pins s σ H R I q => wpAny_mono (h.run pins s σ H R (I.wish _) q) (fun v s1 h1 => wpAny_mono h1 (fun itv s2 h2 => ?_) fun _ _ z => False.elim z) fun _ _ z => False.elim z⟩
  obtain ⟨it, fp, tn, J, H', e, I2, T, t0, f, r⟩ := h2
  exact ⟨it, fp, tn, J, H', e, I2.unwish, T, t0, f, r⟩
theorem PG.nox {tg : Expr} {t : TG} (h : PG X.nox tg t) : PG X tg t := by
  refine ⟨fun pins s σ H v u Q I r q => wpAny_mono (h.run pins s σ H v u Q (I.wish _) r q) (fun _ s2 h2 => ?_) fun _ _ z => False.elim z⟩
  obtain ⟨σ', H', I2, q⟩ := h2
  exact ⟨σ', H', I2.unwish, q⟩
end
end RW
namespace RW
open PySem L2
section
variable {g : G} {X : Cx} {F H : Hp}
def ErrFs (g : G) (F H : Hp) (od : Option Addr) (fs : List (Str × D)) : Prop := (od = none ∧ ∀ f : Str, f ≠ "args" → fs.lookup f = none) ∨ ∃ dx vs, od = some dx ∧ H dx = some (.xd vs) ∧ RepF g F vs fs
theorem Pk.err {P : Program} {w : World} {h : Heap} {v : V} {c : Nat} {fs : List (Str × D)} (hS : Sub F H) (hok : HOk P w H h) (p : Pk g F H v (.err c fs)) : ∃ a od, v = .ref a ∧ ErrP a (g.cls c) od h ∧ ErrFs g F H od fs := by
  have at_ : ∀ {a : Addr} {od : Option Addr}, F a = some (.ext (ErrP a (g.cls c) od)) → ErrP a (g.cls c) od h := fun {a od} e => by
    rcases hS _ _ e with z | ⟨_, ob, z⟩
    · have q : ObjOk P w H h a (.ext (ErrP a (g.cls c) od)) := hok _ _ z
      exact q.1
    · have q : ObjOk P w H h a (.frz ob (.ext (ErrP a (g.cls c) od))) := hok _ _ z
      exact q.2.1
  have atT : ∀ {a t : Addr}, F a = some (.ext (ErrT a (g.cls c) t)) → ErrP a (g.cls c) none h := fun {a t} e => by
    rcases hS _ _ e with z | ⟨_, ob, z⟩
    · have q : ObjOk P w H h a (.ext (ErrT a (g.cls c) t)) := hok _ _ z
      obtain ⟨oe, vs, a1, a2, a3, a4, _⟩ := q.1
      exact ⟨oe, vs, a1, a2, a3, a4⟩
    · have q : ObjOk P w H h a (.frz ob (.ext (ErrT a (g.cls c) t))) := hok _ _ z
      obtain ⟨oe, vs, a1, a2, a3, a4, _⟩ := q.2.1
      exact ⟨oe, vs, a1, a2, a3, a4⟩
  rcases p with p | ⟨a, o, rfl, e, q⟩
  · cases p with
    | ref e q => cases q
    | err0 e => exact ⟨_, none, rfl, at_ e, .inl ⟨rfl, fun f _ => rfl⟩⟩
    | errT e et =>
      refine ⟨_, none, rfl, atT e, .inl ⟨rfl, fun f hf => ?_⟩⟩
      have hb : (f == ("args" : Str)) = false := by simpa using hf
      rw [List.lookup_cons, hb]; rfl
    | errD e ed q _ =>
      refine ⟨_, _, rfl, at_ e, .inr ⟨_, _, rfl, ?_, q⟩⟩
      rcases hS _ _ ed with z | ⟨z, _⟩
      · exact z
      · rcases z with ⟨_, z⟩ | ⟨_, z⟩ | ⟨_, _, _, z⟩ <;> cases z
  · cases q
structure ErC (K : PySem.W.Frag) (C : Addr) : Prop where
  hg : PySem.W.findIn K (.ref C) "__getattribute__" = some (some (.builtin "BaseException.__getattribute__"))
  hk : PySem.W.findIn K (.ref C) "__getattr__" = some none
  hs : PySem.W.subIn K (.ref C) (.type "BaseException") = some true
  hd : PySem.W.hasDictIn K C = true
  ha : PySem.W.findIn K (.ref C) "__class__" = some (some (.builtin "object.__class__"))
  hn : PySem.W.specialIn K (.builtin "object.__class__") "__get__" = some (some (.builtin "getset_descriptor.__get__"))
  ht : PySem.W.takesIn K (.builtin "object.__class__") = some true
  hm : PySem.W.mroIn K C (.type "object") = some true
theorem inst_err {P : Program} {w : World} {h : Heap} {a C : Addr} {od : Option Addr} {fs : List (Str × D)} (hok : HOk P w H h) (e : ErrP a C od h) (d : ErrFs g F H od fs) : ∃ ox oo, PySem.W.InstAt h a ox C oo ∧ ∀ f : Str, f ≠ "args" → (∃ v, fs.lookup f = some v) → ∃ dx vs od' , oo = some od' ∧ H dx = some (.xd vs) ∧ RepF g F vs fs ∧ ∃ mA : Str → Option Value, (∀ f, RelO (vs.lookup f) (mA f)) ∧ ∀ name, PySem.W.lookIn name od' = some (mA name) := by
  obtain ⟨oe, vs0, he, hc, hd, hdat⟩ := e
  have hnc : PySem.W.notCls oe = true := by unfold PySem.W.notCls; rw [hdat] <;> rfl
  rcases d with ⟨rfl, hno⟩ | ⟨dx, vs, rfl, hx, r⟩
  · refine ⟨oe, none, ⟨he, hc, hnc, ?_⟩, fun f hf ⟨v, z⟩ => by rw [hno f hf] at z; cases z⟩
    rw [hd]; trivial
  · have q : ObjOk P w H h dx (.xd vs) := hok _ _ hx
    obtain ⟨mA, hns, hr⟩ := q
    obtain ⟨od', ho, hl⟩ := lookIn_ns hns
    exact ⟨oe, some od', ⟨he, hc, hnc, by rw [hd]; exact ho⟩, fun f _ _ => ⟨dx, vs, od', rfl, hx, r, mA, hr, hl⟩⟩
def rIsE (g : G) (K : PySem.W.Frag) : List V → Hp → VK → Prop := fun xs H Q => rIsi K xs H Q ∨ ∃ (F : Hp) (x c : V) (u : Value) (k : Nat) (fs : List (Str × D)) (b : Bool), xs = [x, c] ∧ ClsV c u ∧ Sub F H ∧ Pk g F H x (.err k fs) ∧ ErC K (g.cls k) ∧ PySem.W.kitOne K (.ref (g.cls k)) u = some b ∧ Q (.bl b) H
theorem call_isE : CallR X (.builtin "isinstance") (rIsE g X.K) := by
  intro pins s σ H xs us Q I r h
  rcases h with h | ⟨F, x, c, u, k, fs, b, rfl, kc, hS, p, T, e, q⟩
  · exact call_isi pins s σ H xs us Q I r h
  · obtain ⟨u1, u2, rfl, r1, r2⟩ := vals2 r
    have e2 := kc.eq r2
    subst e2
    obtain ⟨a, od, rfl, he, hf⟩ := p.err hS I.hok
    obtain rfl : u1 = Value.ref a := r1
    obtain ⟨ox, oo, J, _⟩ := inst_err I.hok he hf
    refine PySem.W.kia_one (PySem.W.kitx_exc (by obtain ⟨cd, hc, _⟩ := PySem.W.any_some T.hd; rw [hc]; rfl) T.hg T.hk T.hs T.ha T.hn T.ht T.hm) I.kIn J e (fun z => nomatch z) fun tk => ⟨.bl b, H, I.tok tk, rfl, q⟩
def isiE (tab : Nat → Option Bool) : D → Option Vr
  | .err c _ => (tab c).map fun b => .sh (.bl b)
  | .obj _ _ => none
  | d => (tyN d).map fun _ => .sh (.bl false)
structure IsTab (g : G) (u : Value) (tab : Nat → Option Bool) : Prop where
  base : ∀ n ∈ tyL, PySem.W.kitOne g.K (.type n) u = some false
  err : ∀ k b, tab k = some b → ErC g.K (g.cls k) ∧ PySem.W.kitOne g.K (.ref (g.cls k)) u = some b
theorem p_isiE {c : V} {u : Value} {tab : Nat → Option Bool} (hc : ClsV c u) (T : IsTab g u tab) : Op1 g (isiE tab) (fun x H Q => rIsE g g.K [x, c] H Q) := by
  refine ⟨fun x z e i => ?_, fun F H x dx z Q s p e n => ?_⟩
  · unfold isiE at e
    split at e
    · obtain ⟨a, _, rfl⟩ := Option.map_eq_some_iff.mp e
      exact fun z => nomatch z
    · cases e
    · obtain ⟨a, _, rfl⟩ := Option.map_eq_some_iff.mp e
      exact fun z => nomatch z
  · unfold isiE at e
    split at e
    · obtain ⟨b, eb, rfl⟩ := Option.map_eq_some_iff.mp e
      obtain ⟨t1, t2⟩ := T.err _ _ eb
      exact .inr ⟨F, x, c, u, _, _, b, rfl, hc, s, p, t1, t2, n F _ H (Ext.refl s) (.bl _)⟩
    · cases e
    · obtain ⟨a, ea, rfl⟩ := Option.map_eq_some_iff.mp e
      exact .inl ⟨x, c, _, u, false, rfl, hc, p.ty s ea, T.base _ (tyN_mem ea), n F _ H (Ext.refl s) (.bl _)⟩
theorem d_isiE {b : Str} {a : Expr} {ma : M g.R.S Vr} {p pos p2 : Pos} {k : Nat} {C : Nat} {tab : Nat → Option Bool} (o : XO g k X) (hg : Gl X "isinstance") (hm : X.mg "isinstance" = none) (hg2 : Gl X b) (hm2 : X.mg b = some (.ref (g.cls C))) (T : IsTab g (.ref (g.cls C)) tab) (ha : DE g X a ma)
    (hd : (b == ("__debug__" : Str)) = false := by decide)
    (he : starEach [a, .Name b p2] X.env = (false, eval a X.env) :: starEach [.Name b p2] X.env := by rfl) (he2 : starEach [.Name b p2] X.env = (false, eval (.Name b p2) X.env) :: starEach [] X.env := by rfl) (hpl : (backTo pos (starEach [.Name b p2] X.env)).any (·.1) = false := by rfl) :
    DE g X (.Call (.Name "isinstance" p) [a, .Name b p2] [] pos) (mOp1 (isiE tab) ma) :=
  PE.imp (pe_callB call_isE hg hm boot_isi (pa_cons ha (pa_cons (pe_glob hg2 hm2 (v := .ref (g.cls C)) rfl hd) pa_nil he2) he) (by decide) (by decide) he hpl) fun σ H Q h => by
    have q := tOp1_of (p_isiE (.own _) T) h
    rw [← o.K] at q
    exact q
theorem d_isiEB {b : Str} {bs : String} {a : Expr} {ma : M g.R.S Vr} {p pos p2 : Pos} {k : Nat} {tab : Nat → Option Bool} (o : XO g k X) (hg : Gl X "isinstance") (hm : X.mg "isinstance" = none) (hg2 : Gl X b) (hm2 : X.mg b = none) (T : IsTab g (.type bs) tab) (ha : DE g X a ma) (hv : bootBuiltins b = some (.type bs) := by with_unfolding_all rfl)
    (hn : b ≠ "__name__" := by decide) (hd : (b == ("__debug__" : Str)) = false := by decide)
    (he : starEach [a, .Name b p2] X.env = (false, eval a X.env) :: starEach [.Name b p2] X.env := by rfl) (he2 : starEach [.Name b p2] X.env = (false, eval (.Name b p2) X.env) :: starEach [] X.env := by rfl) (hpl : (backTo pos (starEach [.Name b p2] X.env)).any (·.1) = false := by rfl) :
    DE g X (.Call (.Name "isinstance" p) [a, .Name b p2] [] pos) (mOp1 (isiE tab) ma) :=
  PE.imp (pe_callB call_isE hg hm boot_isi (pa_cons ha (pa_cons (pe_bltn hg2 hm2 hv (v := .ty bs) rfl hn hd) pa_nil he2) he) (by decide) (by decide) he hpl) fun σ H Q h => by
    have q := tOp1_of (p_isiE (.ty _) T) h
    rw [← o.K] at q
    exact q
theorem RepF.lookup : ∀ {vs : List (Str × V)} {fs : List (Str × D)} {f : Str} {d : D}, RepF g F vs fs → fs.lookup f = some d → ∃ v, vs.lookup f = some v ∧ Rep g F v d
  | _, _, f, d, .nil, h => by cases h
  | _, _, f, d, .cons (f := f') r t, h => by
    rw [List.lookup_cons] at h ⊢
    by_cases e : f == f'
    · rw [e] at h ⊢
      cases h
      exact ⟨_, rfl, r⟩
    · have e' : (f == f') = false := by simpa using e
      rw [e'] at h ⊢
      exact RepF.lookup t h
def errF (tab : Nat → Bool) (f : Str) : D → Option Vr
  | .err c fs => if tab c then (fs.lookup f).map .sh else none
  | _ => none
theorem pe_errF {e : Expr} {te : TE} {n : Str} {pos : Pos} (hn : n ≠ "args") (he : PE X e te) (hb : attributeBase e n X.env (eval e X.env) = eval e X.env := by rfl) :
    PE X (.Attribute e n pos) (fun σ H Q => te σ H fun x H1 => ∃ F c fs d, Sub F H1 ∧ Pk g F H1 x (.err c fs) ∧ fs.lookup n = some d ∧ ErC X.K (g.cls c) ∧ PySem.W.findIn X.K (.ref (g.cls c)) n = some none ∧ ∀ v, Rep g F v d → Q v H1) := by
  refine ⟨fun pins s σ H Q I h => ?_⟩
  refine attr_of hb (thn (he.run pins s σ H _ I h) fun u s1 ⟨x, H1, I1, rx, F, c, fs, d, hS, p, hl, T, hno, q⟩ => ?_)
  obtain ⟨a, od, rfl, hee, hf⟩ := p.err hS I1.hok
  obtain rfl : u = Value.ref a := rx
  obtain ⟨ox, oo, J, k⟩ := inst_err I1.hok hee hf
  obtain ⟨dx, vs, od', rfl, hx, r, mA, hr, hlk⟩ := k n hn ⟨d, hl⟩
  obtain ⟨v, hv, rv⟩ := r.lookup hl
  obtain ⟨u, hu, ru⟩ := RelO.some_of (v := v) (o := mA n) (by rw [← hv]; exact hr n)
  exact HandSPX.exc_get I1.kIn J T.hg T.hk T.hs (PySem.W.findObj_own T.hd hno rfl (by rw [hlk, hu])) (handed_of ru) ⟨v, H1, I1.tok _, ru, q v rv⟩
theorem d_errF {e : Expr} {f : Str} {ma : M g.R.S Vr} {pos : Pos} {k : Nat} {tab : Nat → Bool} (o : XO g k X) (T : ∀ c, tab c = true → ErC g.K (g.cls c) ∧ PySem.W.findIn g.K (.ref (g.cls c)) f = some none) (ha : DE g X e ma) (hf : f ≠ "args" := by decide) (hb : attributeBase e f X.env (eval e X.env) = eval e X.env := by rfl) :
    DE g X (.Attribute e f pos) (mOp1 (errF tab f) ma) := PE.imp (pe_errF (g := g) hf ha hb) fun σ H Q ⟨F, s, res, s', I, e, k⟩ => by
  unfold mOp1 at e
  obtain ⟨⟨r, s1⟩, e1, e⟩ := Option.bind_eq_some_iff.mp e
  obtain ⟨x, e2, e⟩ := Option.bind_eq_some_iff.mp e
  obtain ⟨z, e3, e⟩ := Option.map_eq_some_iff.mp e
  cases e
  refine tM_soft I e1 fun F1 v H1 I1 K1 w1 => ?_
  have p := w1.pk I1 e2
  unfold errF at e3
  split at e3
  · rename_i c fs
    split at e3
    · rename_i ht
      obtain ⟨d, e4, e5⟩ := Option.map_eq_some_iff.mp e3
      cases e5
      obtain ⟨t1, t2⟩ := T _ ht
      exact ⟨F1, c, fs, d, I1.sub, p, e4, by rw [o.K]; exact t1, by rw [o.K]; exact t2, fun v' rv => k F1 v' H1 I1 K1 rv⟩
    · cases e3
  · cases e3
end
end RW
set_option maxHeartbeats 4000000
namespace PySem
namespace HandSPX
open Builtin Builtin.ObjectAttr
section
variable {M : Model} {A : Around} {E : Value → Shared → Prop} {h : Heap} {g : Array GenState} {d : Drawn} {t : Nat} {os : OsState}
variable {nm q : Str} {C N : Addr} {bs bm bmB : List Value} {hdct : Bool} {sn : List Str} {sub : List Value} {ab : Bool} {col : Option Bool} {dd : Option Addr} {k0 k1 k2 k3 k5 : Option Value} {B newId initId : String}
theorem check_new_ownK (F : ExcBaseFacts B newId initId bmB) (hT : ∀ X : String, bm.contains (.type X) = bmB.contains (.type X)) {rest : List Value} {kn : Str} {kv : Value} {Q : Unit → Shared → Prop}
    (hC : h.get? C = some (excClassObj nm q C N bs bm hdct sn sub ab col dd k0 k1 k2 k3 k5 newId)) (hq : Q () ⟨h, g, d, t, os⟩) : wpAny M A (checkBuiltinCall newId ⟨.ref C :: rest, [(kn, kv)]⟩) Q E ⟨h, g, d, t, os⟩ := by
  have hcont : (Value.ref C :: bm).contains (.type B) = true := by rw [List.contains_cons, hT, F.hasB, Bool.or_true]
  have hstar := F.noStar
  simp only [checkBuiltinCall, F.newKind, F.newSplit, F.newRow]
  repeat (first | refine wpAny_loadPart_at hC ?_ | (refine wpAny_isSubtype_exc hC ?_; rw [hcont]) | refine wpAny_staticBase_exc hC ?_ | refine wpAny_madeBy_exc hC ?_ | simp only [bne_self_eq_false, Bool.false_eq_true, if_false] | wp_step)
  exact hq
end
section
variable {prog : Program} {w : World} {A : Around} {E : Value → Shared → Prop} {R : Result → Shared → Prop} {h : Heap} {g : Array GenState} {d : Drawn} {t : Nat} {os : OsState}
variable {nm q : Str} {C N : Addr} {bs bm bmB : List Value} {hdct : Bool} {sn : List Str} {sub : List Value} {ab : Bool} {col : Option Bool} {dd : Option Addr} {k0 k1 k2 k3 k5 : Option Value} {B newId initId : String}
theorem new_ownK (F : ExcBaseFacts B newId initId bmB) (hT : ∀ X : String, bm.contains (.type X) = bmB.contains (.type X)) {rest : List Value} {kn : Str} {kv : Value}
    (hC : h.get? C = some (excClassObj nm q C N bs bm hdct sn sub ab col dd k0 k1 k2 k3 k5 newId))
    (hq : R (.ok (.ret (.ref (h.objs.size + 1)))) ⟨(h.push { cls := .type "tuple", data := .seq rest.toArray }).push
      { cls := .ref C, data := .fields #[.ref h.objs.size, .none, .none, .none, .bool false, .none] }, g, d, t, os⟩) (hrest : rest.length ≤ sizeLine) :
    codeAny (model prog w) A (.builtin newId ⟨.ref C :: rest, [(kn, kv)]⟩) R ⟨h, g, d, t, os⟩ := by
  have hends := F.ends
  have hcB : (Value.ref C :: bm).contains (.type B) = true := by rw [List.contains_cons, hT, F.hasB, Bool.or_true]
  have hcA : (Value.ref C :: bm).contains (.type "AttributeError") = false := by rw [List.contains_cons, hT, F.noAttr]; rfl
  have hcN : (Value.ref C :: bm).contains (.type "NameError") = false := by rw [List.contains_cons, hT, F.noName]; rfl
  refine codeAny_builtinAt F.entry ?_
  unfold Builtin.«BaseException.__new__»
  refine wpAt_bind ?_
  show wpAt _ _ _ (stack >>= _) _ _ _
  refine wpAt_bind (wpAt_stack fun p below => wpAt_of_wpAny ?_)
  wp_walk
  refine wpAt_of_wpAny ?_
  rw [F.owner]
  repeat (first | with_reducible refine wpAny_madeHere_exc F.canon hC ?_ | with_reducible refine wpAny_loadPart_at hC ?_ | (with_reducible refine wpAny_isSubtype_exc hC ?_; first | rw [hcB] | rw [hcA] | rw [hcN]) | wp_step)
  show R _ _
  rw [Heap.size_push]
  exact hq
theorem type_call_ownK (F : ExcBaseFacts B newId initId bmB) (hT : ∀ X : String, bm.contains (.type X) = bmB.contains (.type X)) {rest : List Value} {kn : Str} {kv : Value} {fI : Addr} {Q : Fin → Shared → Prop}
    (hC : h.get? C = some (excClassObj nm q C N bs bm hdct sn sub ab col dd k0 k1 k2 k3 k5 newId))
    (hi : W.Looks (model prog w) h (typeLookup (.ref C) "__init__") (some (.ref fI))) (hb : ∀ self, W.Looks (model prog w) h (bindSpecial (.ref fI) self) (.ref fI, [self])) (hrest : rest.length ≤ sizeLine)
    (hq : codeAny (model prog w) A (.call (.ref fI) ⟨.ref (h.objs.size + 1) :: rest, [(kn, kv)]⟩)
      (fun r s' => match r with | .ok (.ret v) => v = .none ∧ Q (.done (.ret (.ref (h.objs.size + 1)))) s' | .ok _ => False | .error e => E e s')
      ⟨(h.push (W.kdv_tup rest)).push (excO C h.objs.size), g, d, t, os⟩) :
    wpAny (model prog w) A (Builtin.«type.__call__» ⟨.ref C :: rest, [(kn, kv)]⟩) Q E ⟨h, g, d, t, os⟩ := by
  repeat (first | with_reducible refine wpAny_loadPart_at hC ?_ | with_reducible refine wpAny_madeBy_exc hC ?_ | wp_step)
  refine codeAny_call_builtin_code (Code.quiet_builtin _ F.quiet) (check_new_ownK F hT hC ?_)
  refine new_ownK F hT hC ?_ hrest
  show wpAny _ _ _ _ _ _
  have k : ∀ b o, h.get? b = some o → ((h.push (W.kdv_tup rest)).push (excO C h.objs.size)).get? b = some o := fun b o e => Heap.get?_push_of_some _ (Heap.get?_push_of_some _ e)
  have hC₁ := k _ _ hC
  have hget : ((h.push (W.kdv_tup rest)).push (excO C h.objs.size)).get? (h.objs.size + 1) = some (excO C h.objs.size) := by heap_get
  have hcC : (Value.ref C :: bm).contains (.ref C) = true := by simp
  have i1 := hi.keeps k
  have b1 := (hb (.ref (h.objs.size + 1))).keeps k
  unfold isInstance
  repeat (first | with_reducible refine wpAny_loadPart_at hget ?_ | (with_reducible refine wpAny_isSubtype_exc hC₁ ?_; rw [hcC]) | wp_step)
  show wpAny _ _ (typeLookup (.ref C) _) _ _ _
  refine i1.at ?_
  refine wpAny_holding (wpAny_bind (b1.at ?_))
  refine wpAny_bind (wpAny_call (codeAny_mono hq fun r s' z => ?_))
  rcases r with e | (v | _ | _ | _) <;> first | exact z | exact z.elim | skip
  obtain ⟨rfl, z⟩ := z
  first
    | exact wpAny_pure (wpAny_pure z)
    | (wp_walk; exact z)
theorem check_type_call_subK {M : Model} {rest : List Value} {kn : Str} {kv : Value} {Q : Unit → Shared → Prop} (hC : h.get? C = some (excClassObj nm q C N bs bm hdct sn sub ab col dd k0 k1 k2 k3 k5 newId))
    (hq : Q () ⟨h, g, d, t, os⟩) : wpAny M A (checkBuiltinCall "type.__call__" ⟨.ref C :: rest, [(kn, kv)]⟩) Q E ⟨h, g, d, t, os⟩ := by
  have f3 := tc_sub
  have hT : (⟨h, g, d, t, os⟩ : Shared).TypeIs (.ref C) "type" := ⟨_, hC, rfl⟩
  simp only [checkBuiltinCall, tc_kind, tc_split]
  repeat (any_goals (first | assumption | with_reducible refine wpAny_loadPart_at hC ?_ | with_reducible refine wpAny_onRaise ?_ | with_reducible refine wpAny_map ?_ | wp_step))
theorem call_ownK (F : ExcBaseFacts B newId initId bmB) (hT : ∀ X : String, bm.contains (.type X) = bmB.contains (.type X)) {rest : List Value} {kn : Str} {kv : Value} {fI : Addr}
    (hC : h.get? C = some (excClassObj nm q C N bs bm hdct sn sub ab col dd k0 k1 k2 k3 k5 newId))
    (hi : W.Looks (model prog w) h (typeLookup (.ref C) "__init__") (some (.ref fI))) (hb : ∀ self, W.Looks (model prog w) h (bindSpecial (.ref fI) self) (.ref fI, [self])) (hrest : rest.length ≤ sizeLine)
    (hq : codeAny (model prog w) (A.under (.builtin "type.__call__" ⟨.ref C :: rest, [(kn, kv)]⟩)) (.call (.ref fI) ⟨.ref (h.objs.size + 1) :: rest, [(kn, kv)]⟩) (W.InitBack (h.objs.size + 1) R)
      ⟨(h.push (W.kdv_tup rest)).push (excO C h.objs.size), g, d, t, os⟩) :
    codeAny (model prog w) A (.call (.ref C) ⟨rest, [(kn, kv)]⟩) R ⟨h, g, d, t, os⟩ := by
  have f1 := tc_lookup
  have f2 := tc_bind (.ref C)
  have hTy : (⟨h, g, d, t, os⟩ : Shared).TypeIs (.ref C) "type" := ⟨_, hC, rfl⟩
  refine codeAny_of_tree ?_
  show wpAny _ _ (callAny (.ref C) _) _ _ _
  repeat (any_goals (first | assumption | with_reducible refine wpAny_loadPart_at hC ?_ | wp_step))
  refine ⟨rfl, ?_⟩
  refine codeAny_call_builtin_at (Code.quiet_builtin _ (by decide +kernel)) entry_typeCall (check_type_call_subK hC (type_call_ownK F hT hC hi hb hrest ?_))
  refine codeAny_mono hq fun r s' z => ?_
  rcases r with e | (v | _ | _ | _) <;> exact z
end
end HandSPX
end PySem
namespace RW
open PySem L2
section
variable {X : Cx} {C fI : Addr} {p f : Str} {fd : FuncData}
theorem init_run {pins : List (Addr × Obj)} {σ : L2.St} {H1 : Hp} {hp : Heap} {gs : Array GenState} {dr : Drawn} {tk : Nat} {os : OsState} {us : List Value} {kw : List (Str × Value)} {u : Value} {v : V} {Q : VK} {k : Nat}
    (I1 : Inv X pins σ H1 ⟨hp, gs, dr, tk, os⟩) (O : OexC X.K C) (F1 : FnOk X.prog X.w X.K X.mg X.base CX0 k fI fd ["self", p] (spInit C f)) (hr : Room k (X.A.under (.builtin "type.__call__" ⟨.ref C :: us, kw⟩)))
    (hb : ∀ (s : Shared) (a : Addr), BindsTo s fd ⟨.ref a :: us, kw⟩ ((["self", p] : List Str).zip [.ref a, u])) (r1 : RelV v u)
    (hq : ∀ a dx, H1 a = none → H1 dx = none → dx ≠ a → Q (.ref a) (upd (upd H1 dx (.xd [(f, v)])) a (.ext (ErrP a C (some dx))))) :
    codeAny (model X.prog X.w) (X.A.under (.builtin "type.__call__" ⟨.ref C :: us, kw⟩)) (.call (.ref fI) ⟨.ref (hp.objs.size + 1) :: us, kw⟩) (PySem.W.InitBack (hp.objs.size + 1) fun r s' => match r with | .ok (.ret v) => EP X pins σ Q v s' | .ok _ => False | .error e => X.xe e s')
      ⟨(hp.push (PySem.W.kdv_tup us)).push (HandSPX.excO C hp.objs.size), gs, dr, tk, os⟩ := by
  have hsz : hp.objs.size ≤ hp.objs.size + 1 := Nat.le_succ _
  have hn : H1 (hp.objs.size + 1) = none := I1.hok.fresh hsz
  have kk : ∀ b o, hp.get? b = some o → ((hp.push (PySem.W.kdv_tup us)).push (PySem.HandSPX.excO C hp.objs.size)).get? b = some o := fun b o e => Heap.get?_push_of_some _ (Heap.get?_push_of_some _ e)
  have hget : ((hp.push (PySem.W.kdv_tup us)).push (PySem.HandSPX.excO C hp.objs.size)).get? (hp.objs.size + 1) = some (PySem.HandSPX.excO C hp.objs.size) := by heap_get
  have I2 : Inv X pins σ (upd H1 (hp.objs.size + 1) (exo (hp.objs.size + 1) C none)) ⟨(hp.push (PySem.W.kdv_tup us)).push (PySem.HandSPX.excO C hp.objs.size), gs, dr, tk, os⟩ :=
    I1.laid (t' := tk) (a := hp.objs.size + 1) (o := exo (hp.objs.size + 1) C none) (h' := (hp.push (PySem.W.kdv_tup us)).push (PySem.HandSPX.excO C hp.objs.size)) kk hsz (exo_ok hget)
  generalize hp.objs.size + 1 = a at *
  refine codeAny_mono (F1.run _ X.stack _ _ ⟨Value.ref a :: us, kw⟩ [.ref a, u] [.ref a, v] (fun x H2 => x = .non ∧ ∃ dx, H1 dx = none ∧ dx ≠ a ∧ H2 = upd (upd (upd H1 a (exo a C none)) dx (exd dx [(f, v)])) a (exo a C (some dx))) (fun _ _ _ => False) hr (I2.env0.make C us kw) (hb _ a) (.cons rfl (.cons r1 .nil))
    ⟨a, v, rfl, upd_same, fun dx hd hne => ⟨rfl, dx, by rw [upd_ne hne] at hd; exact hd, hne, rfl⟩⟩) fun r s' hq' => ?_
  cases r with
  | error er => exact (show False from hq').elim
  | ok fl =>
    cases fl with
    | ret w =>
      obtain ⟨x, H2, I3, rv, rfl, dx, hd, hne, rfl⟩ := I2.after hq'
      refine ⟨rv, ?_⟩
      have ex : (upd (upd (upd H1 a (exo a C none)) dx (exd dx [(f, v)])) a (exo a C (some dx))) dx = some (exd dx [(f, v)]) := by rw [upd_ne hne, upd_same]
      obtain ⟨t0, ho⟩ := exo_at I3.hok (upd_same (H := upd (upd H1 a (exo a C none)) dx (exd dx [(f, v)])))
      obtain ⟨mA, hns, rel⟩ := exd_at I3.hok ex
      have I4 := I3.write (t' := s'.toks) (x := dx) (e := dx) (o := .xd [(f, v)]) (by rw [ex]; exact True.intro) (.inl rfl) (fun _ _ _ q => q) (by obtain ⟨o, _, _, e, _⟩ := hns; exact ⟨o, e⟩) ⟨mA, hns, rel⟩
      have ea : (upd (upd (upd (upd H1 a (exo a C none)) dx (exd dx [(f, v)])) a (exo a C (some dx))) dx (.xd [(f, v)])) a = some (exo a C (some dx)) := by rw [upd_ne (Ne.symm hne), upd_same]
      have I5 := I4.write (t' := s'.toks) (x := a) (e := a) (o := .ext (ErrP a C (some dx))) (by rw [ea]; exact True.intro) (.inl rfl) (fun _ _ _ q => q) ⟨_, ho⟩ ⟨⟨_, _, ho, rfl, rfl, rfl⟩, ⟨_, ho⟩, fun h1 h2 ⟨oe, vs, q, r⟩ kp => ⟨oe, vs, kp _ q, r⟩⟩
      have hH : upd (upd (upd (upd (upd H1 a (exo a C none)) dx (exd dx [(f, v)])) a (exo a C (some dx))) dx (.xd [(f, v)])) a (.ext (ErrP a C (some dx))) = upd (upd H1 dx (.xd [(f, v)])) a (.ext (ErrP a C (some dx))) := by
        funext b
        by_cases h1 : b = a
        · rw [h1, upd_same, upd_same]
        · rw [upd_ne h1, upd_ne h1]
          by_cases h2 : b = dx
          · rw [h2, upd_same, upd_same]
          · rw [upd_ne h2, upd_ne h2, upd_ne h1, upd_ne h2, upd_ne h1]
      rw [hH] at I5
      exact ⟨.ref a, _, I5, rfl, hq a dx hn hd hne⟩
    | next => exact False.elim hq'
    | brk => exact False.elim hq'
    | cont => exact False.elim hq'
end
section
variable {g : G} {X : Cx}
theorem errD_call {c : Nat} {f p : Str} {k : Nat} (xo : XO g (k + 2) X) (oe : OEx g X.prog c f p) (hsu : X.mg "super" = none) {pins : List (Addr × Obj)} {σ : L2.St} {H1 : Hp} {s : Shared} {u : Value} {v : V} {Q : VK} (I1 : Inv X pins σ H1 s) (r1 : RelV v u)
    (hq : ∀ a dx, H1 a = none → H1 dx = none → dx ≠ a → Q (.ref a) (upd (upd H1 dx (.xd [(f, v)])) a (.ext (ErrP a (g.cls c) (some dx))))) :
    wpAny (model X.prog X.w) X.A (call (.ref (g.cls c)) [u] []) (EP X pins σ Q) X.xe s ∧ wpAny (model X.prog X.w) X.A (call (.ref (g.cls c)) [] [(p, u)]) (EP X pins σ Q) X.xe s := by
  obtain ⟨O, ⟨fI, fd, h1, h2, h3, h4, h5⟩, hop, hno, hal, hVE, hCC⟩ := oe
  have K := xo.K
  rw [← K] at O h1 h2 h3 hop hno hal hVE hCC
  have FN := fn_excinit (CX := CX0) (P := X.prog) (w := X.w) (K := X.K) (mg := X.mg) (base := X.base) (k := k) h3 O hsu hop hno hal hVE hCC
  obtain ⟨nm, q, N, bs, bm, sn, sub, ab, col, dd, k0, k1, k2, k3, k5, hC, hbm⟩ := O.cls
  obtain ⟨hp, gs, dr, tk, os⟩ := s
  have kin := I1.kIn
  constructor
  · refine wpAny_call (PySem.HandSPX.call_own PySem.F.excBase_ValueError (fun Y => PySem.HandSPX.refsVE_contains Y bm hbm) (kin _ _ hC) (PySem.W.looks_findIn kin h1) (fun self => PySem.W.bind_fn kin self h2) (by rw [sizeLine_eq]; show 1 ≤ 16777216; decide)
      (codeAny_mono (init_run (Q := Q) I1 O FN (xo.rm.make (g.cls c) [u] []) (fun s a => .of_eq (h4 _ _)) r1 hq) fun r s' z => ?_))
    cases r with
    | error e => exact z
    | ok fl => cases fl <;> exact z
  · refine wpAny_call (PySem.HandSPX.call_ownK PySem.F.excBase_ValueError (fun Y => PySem.HandSPX.refsVE_contains Y bm hbm) (kin _ _ hC) (PySem.W.looks_findIn kin h1) (fun self => PySem.W.bind_fn kin self h2) (Nat.zero_le _)
      (codeAny_mono (init_run (Q := Q) I1 O FN (xo.rm.make (g.cls c) [] [(p, u)]) (fun s a => .of_eq (h5 _ _)) r1 hq) fun r s' z => ?_))
    cases r with
    | error e => exact z
    | ok fl => cases fl <;> exact z
def mErrD {R : Type} (c : Nat) (f : Str) (ma : M R (List Vr)) : M R Vr := fun s => (ma s).bind fun p => (escAll p.1 p.2).bind fun q => match q.1 with
  | [d] => if f = "args" then none else some (.sh (.err c [(f, d)]), q.2)
  | _ => none
theorem errD_fin {c : Nat} {f : Str} {ma : M g.R.S (List Vr)} {σ : L2.St} {H : Hp} {Q : VK} (h : tM g (mErrD c f ma) σ H Q) : tMV g 1 ma σ H fun vs H1 => ∃ v, vs = [v] ∧ ∀ a dx, H1 a = none → H1 dx = none → dx ≠ a → Q (.ref a) (upd (upd H1 dx (.xd [(f, v)])) a (.ext (ErrP a (g.cls c) (some dx)))) := by
  obtain ⟨F, s, res, s', I, e, k⟩ := h
  unfold mErrD at e
  obtain ⟨⟨rs, s1⟩, e1, e⟩ := Option.bind_eq_some_iff.mp e
  obtain ⟨⟨ds, s2⟩, e2, e⟩ := Option.bind_eq_some_iff.mp e
  refine ⟨F, s, rs, s1, I, e1, fun F1 vs H1 I1 K1 w hl => ?_⟩
  obtain ⟨F2, I2, K2, r2⟩ := escAll_ok I1 w e2
  match vs, hl, r2 with
  | [v], _, r2 =>
  cases r2 with
  | cons rv rn =>
  cases rn
  rename_i d
  have e : (if f = "args" then none else some (Vr.sh (D.err c [(f, d)]), s2)) = some (res, s') := e
  by_cases hf : f = "args"
  · rw [if_pos hf] at e; cases e
  rw [if_neg hf] at e
  cases e
  have hlk : ([(f, d)] : List (Str × D)).lookup ("args" : Str) = none := by
    have hb : (("args" : Str) == f) = false := by simpa using Ne.symm hf
    rw [List.lookup_cons, hb]; rfl
  refine ⟨v, rfl, fun a dx na nd hne => ?_⟩
  have x3 : Ext F2 H1 (upd F2 dx (.xd [(f, v)])) (upd H1 dx (.xd [(f, v)])) := Ext.new I2.sub nd
  have na' : (upd H1 dx (.xd [(f, v)])) a = none := by rw [upd_ne (Ne.symm hne)]; exact na
  have x4 := Ext.new (o := .ext (ErrP a (g.cls c) (some dx))) x3.sub na'
  have x := x3.trans x4
  exact k _ _ _ (I2.ext x) ((K1.trans K2 I2).trans (Keep.ext x) (I2.ext x)) (Rep.errD upd_same (by rw [upd_ne hne, upd_same]) (.cons (rv.mono x.le) .nil) hlk)
theorem d_errD {c : Nat} {x f p : Str} {e : Expr} {ma : M g.R.S Vr} {p1 pos : Pos} {k : Nat} (xo : XO g (k + 2) X) (oe : OEx g X.prog c f p) (gC : X.mg x = some (.ref (g.cls c))) (hsu : X.mg "super" = none) (ha : DE g X e ma) (hg : Gl X x := by rfl)
    (hs : starEach [e] X.env = (false, eval e X.env) :: starEach [] X.env := by rfl) (hpl : (backTo pos (starEach [] X.env)).any (·.1) = false := by rfl) (hdb : (x == ("__debug__" : Str)) = false := by decide) :
    DE g X (.Call (.Name x p1) [e] [] pos) (mErrD c f (mArgs [ma])) := by
  have hd : DA g X 1 [e] (mArgs [ma]) := a_cons ha a_nil hs
  refine ⟨fun pins s σ H Q I h => ?_⟩
  have h := errD_fin h
  have kC := oe.O.kC
  rw [← xo.K] at kC
  refine wpAny_Call_Name_kw (ld_glob I hg gC ?_ hdb)
  refine PySem.W.callWith_K (h₀ := X.base) I.ok.mod.kin kC (thn (hd.run pos pins s σ H _ I h) fun us s1 ⟨vs, H1, I1, r1, v, ev, q1⟩ => ⟨I1.kIn, ?_⟩) hs hpl
  subst ev
  cases r1 with
  | cons rv rn =>
  cases rn
  exact (errD_call xo oe hsu I1 rv q1).1
theorem d_errDK {c : Nat} {x f p : Str} {kws : List Keyword} {m : M g.R.S (List Vr)} {p1 pos : Pos} {k : Nat} (xo : XO g (k + 2) X) (oe : OEx g X.prog c f p) (gC : X.mg x = some (.ref (g.cls c))) (hsu : X.mg "super" = none) (ha : DK g X 1 kws m) (hg : Gl X x := by rfl)
    (hdb : (x == ("__debug__" : Str)) = false := by decide) (hall : (backToKw pos (keywordEach kws X.env)).all (·.1.isSome) = true := by rfl) (hks : (backToKw pos (keywordEach kws X.env)).filterMap (·.1) = [p] := by rfl)
    (hpl : ((backTo pos (starEach [] X.env)).any (·.1) || (backToKw pos (keywordEach kws X.env)).any (·.1.isNone)) = false := by rfl) :
    DE g X (.Call (.Name x p1) [] kws pos) (mErrD c f m) := by
  refine ⟨fun pins s σ H Q I h => ?_⟩
  have h := errD_fin h
  have kC := oe.O.kC
  rw [← xo.K] at kC
  refine wpAny_Call_Name_kw (ld_glob I hg gC (PySem.W.callWith_KW0 (h₀ := X.base) I.ok.mod.kin kC hall ?_ hpl) hdb)
  refine thn (ha.run pos pins s σ H _ I h) fun us s1 ⟨vs, H1, I1, r1, v, ev, q1⟩ => ⟨I1.kIn, ?_⟩
  subst ev
  rw [hks]
  cases r1 with
  | cons rv rn =>
  cases rn
  exact (errD_call xo oe hsu I1 rv q1).2
theorem pe_errT {C : Addr} {bmB : List Value} {B newId initId : String} {x : Str} {e : Expr} {te : TE} {p pos : Pos} (FF : PySem.ExcBaseFacts B newId initId bmB) (q : PySem.W.excIn X.K C bmB newId = true) (gC : X.mg x = some (.ref C)) (kC : PySem.W.keepIn X.K (.ref C) = true) (hg : Gl X x)
    (he : PE X e te) (hs : starEach [e] X.env = (false, eval e X.env) :: starEach [] X.env) (hdb : (x == ("__debug__" : Str)) = false) :
    PE X (.Call (.Name x p) [e] [] pos) (fun σ H Q => te σ H fun v H1 => ∀ a t, H1 a = none → H1 t = none → a ≠ t → Q (.ref a) (upd (upd H1 t (.tup [v])) a (.ext (ErrT a C t)))) := by
  refine ⟨fun pins s σ H Q I h => ?_⟩
  refine wpAny_Call_Name_kw (ld_glob I hg gC ?_ hdb)
  refine PySem.W.callWith_K (h₀ := X.base) I.ok.mod.kin kC ?_ hs (by rfl)
  rw [hs]
  show wpAny _ _ (spliced ((false, eval e X.env) :: backTo pos (starEach [] X.env))) _ _ s
  refine Calls.spliced_cons (thn (he.run pins s σ H _ I h) fun u s1 ⟨v, H1, I1, r1, q1⟩ => ?_)
  refine Calls.spliced_nil ⟨I1.kIn, ?_⟩
  show wpAny _ _ (call (.ref C) [u]) _ _ _
  obtain ⟨bm, N, nm, qn, bs, hdct, sn, sub, ab, col, dd, k0, k1, k2, k3, k5, mN, hC, hN, hni, T⟩ := exc_obj I1.kIn q
  refine wpAny_call_exc_subT FF T hC hN hni (fun h' a hm => ?_) (by show 1 ≤ sizeLine; rw [sizeLine_eq]; omega)
  obtain ⟨t, ha, tn, ht⟩ := hm.there
  have na : H1 a = none := I1.hok.gone hm.new
  have nt : H1 t = none := I1.hok.gone tn
  have hne : a ≠ t := fun z => by
    rw [z, ht] at ha
    cases ha
  have ba : ∀ {b : Addr} {o : Obj}, s1.heap.get? b = some o → b ≠ a := fun {b o} e z => by rw [z, hm.new] at e; cases e
  have bt : ∀ {b : Addr} {o : Obj}, s1.heap.get? b = some o → b ≠ t := fun {b o} e z => by rw [z, tn] at e; cases e
  have U : Un X.fs [] H1 (upd (upd H1 t (.tup [v])) a (.ext (ErrT a C t))) s1.heap h' := {
    keep := fun b o e _ _ _ => hm.keeps b o e
    slot := fun b o e _ _ _ => ⟨o.slots, hm.keeps b o e⟩
    free := fun b o e n _ => by rw [upd_ne (ba e), upd_ne (bt e)]; exact n
    there := fun b o e _ => ⟨o, hm.keeps b o e⟩
    tups := fun b xs e => by rw [upd_ne (ne_of_none e na), upd_ne (ne_of_none e nt)]; exact e
    frzs := fun b o u e => by rw [upd_ne (ne_of_none e na), upd_ne (ne_of_none e nt)]; exact e
    tbls := fun b ps e => ⟨#[], by rw [upd_ne (ne_of_none e na), upd_ne (ne_of_none e nt), e]; simp⟩ }
  have o1 : ObjOk X.prog X.w (upd H1 t (.tup [v])) h' t (.tup [v]) := ⟨by show 1 ≤ sizeLine; rw [sizeLine_eq]; omega, [u], .cons r1 .nil, ⟨_, ht, rfl, _, rfl⟩⟩
  have k1 : HOk X.prog X.w (upd H1 t (.tup [v])) h' := I1.hok.laidN hm.keeps nt o1
  have na' : (upd H1 t (.tup [v])) a = none := by rw [upd_ne hne]; exact na
  have k2 : HOk X.prog X.w (upd (upd H1 t (.tup [v])) a (.ext (ErrT a C t))) h' := k1.laidN (fun _ _ e => e) na' ⟨⟨_, _, ha, rfl, rfl, rfl, rfl⟩, ⟨_, ha⟩, fun h1 h2 ⟨oe, vs, e, r⟩ kp => ⟨oe, vs, kp _ e, r⟩⟩
  exact ⟨.ref a, _, I1.un (t' := s1.toks) U k2, rfl, q1 a t na nt hne⟩
def errTD (c : Nat) : D → Option Vr
  | .str x => some (.sh (.err c [("args", .str x)]))
  | _ => none
def mErrT {R : Type} (c : Nat) (ma : M R Vr) : M R Vr := mOp1 (errTD c) ma
theorem d_errT {c : Nat} {bmB : List Value} {B newId initId : String} {x : Str} {e : Expr} {ma : M g.R.S Vr} {p pos : Pos} {k : Nat} (xo : XO g k X) (FF : PySem.ExcBaseFacts B newId initId bmB) (q : PySem.W.excIn g.K (g.cls c) bmB newId = true) (gC : X.mg x = some (.ref (g.cls c)))
    (kC : PySem.W.keepIn g.K (.ref (g.cls c)) = true) (ha : DE g X e ma) (hg : Gl X x := by rfl) (hs : starEach [e] X.env = (false, eval e X.env) :: starEach [] X.env := by rfl) (hdb : (x == ("__debug__" : Str)) = false := by decide) :
    DE g X (.Call (.Name x p) [e] [] pos) (mErrT c ma) := by
  rw [← xo.K] at q kC
  refine PE.imp (pe_errT FF q gC kC hg ha hs hdb) fun σ H Q ⟨F, s, res, s', I, e, k⟩ => ?_
  unfold mErrT mOp1 at e
  obtain ⟨⟨r, s1⟩, e1, e⟩ := Option.bind_eq_some_iff.mp e
  obtain ⟨d, e2, e⟩ := Option.bind_eq_some_iff.mp e
  obtain ⟨z, e3, e⟩ := Option.map_eq_some_iff.mp e
  cases e
  refine tM_soft I e1 fun F1 v H1 I1 K1 w => ?_
  have p := w.pk I1 e2
  unfold errTD at e3
  split at e3
  · rename_i x
    cases e3
    intro a t na nt hne
    obtain rfl := Pk.str p
    have x3 : Ext F1 H1 (upd F1 t (.tup [.str x])) (upd H1 t (.tup [.str x])) := Ext.new I1.sub nt
    have na' : (upd H1 t (.tup [V.str x])) a = none := by rw [upd_ne hne]; exact na
    have x4 := Ext.new (o := .ext (ErrT a (g.cls c) t)) x3.sub na'
    have xx := x3.trans x4
    exact k _ _ _ (I1.ext xx) (K1.trans (Keep.ext xx) (I1.ext xx)) (Rep.errT upd_same (by rw [upd_ne (Ne.symm hne), upd_same]))
  · cases e3
def strE : D → Option Vr
  | .err _ fs => (match fs with
    | [(f, .str x)] => if f = "args" then some (.sh (.str x)) else none
    | _ => none)
  | _ => none
theorem strE_inv {d : D} {z : Vr} (h : strE d = some z) : ∃ c x, d = .err c [("args", .str x)] ∧ z = .sh (.str x) := by
  unfold strE at h
  split at h
  · split at h
    · split at h
      · rename_i hf
        cases h
        exact ⟨_, _, by rw [hf], rfl⟩
      · cases h
    · cases h
  · cases h
def StrC (K : PySem.W.Frag) (C : Addr) : Prop := PySem.W.findIn K (.ref C) "__str__" = some (some (.builtin "BaseException.__str__")) ∧ PySem.W.subIn K (.ref C) (.type "BaseException") = some true
def rStrE (g : G) (K : PySem.W.Frag) : List V → Hp → VK → Prop := fun xs H Q => ∃ F v c x, xs = [v] ∧ Sub F H ∧ Pk g F H v (.err c [("args", .str x)]) ∧ StrC K (g.cls c) ∧ Q (.str x) H
theorem call_strE (hu : X.A.units + 2 < cLine) : CallR X (.type "str") (rStrE g X.K) := by
  intro pins s σ H xs us Q I r ⟨F, v, c, x, e, hS, p, ⟨h1, h2⟩, q⟩
  subst e
  obtain ⟨u, rfl, rv⟩ := vals1 r
  rcases p with p | ⟨a, o, rfl, e, q⟩
  · cases p with
    | ref e q => cases q
    | errD e ed q n => cases n
    | @errT a t _ _ e et =>
      obtain rfl : u = Value.ref a := rv
      have hx : ErrT a (g.cls c) t s.heap := by
        rcases hS _ _ e with z | ⟨_, ob, z⟩
        · have q : ObjOk X.prog X.w H s.heap a (.ext (ErrT a (g.cls c) t)) := I.hok _ _ z
          exact q.1
        · have q : ObjOk X.prog X.w H s.heap a (.frz ob (.ext (ErrT a (g.cls c) t))) := I.hok _ _ z
          exact q.2.1
      have ht : H t = some (.tup [.str x]) := by
        rcases hS _ _ et with z | ⟨z, _⟩
        · exact z
        · rcases z with ⟨_, z⟩ | ⟨_, z⟩ | ⟨_, _, _, z⟩ <;> cases z
      obtain ⟨_, its, rt, it⟩ : ObjOk X.prog X.w H s.heap t (.tup [.str x]) := I.hok _ _ ht
      cases rt with
      | cons ru rn =>
      cases rn
      obtain ⟨tk, rfl⟩ := ru
      obtain ⟨oe, vs, b1, b2, b3, b4, b5⟩ := hx
      obtain ⟨ot, c1, c2, n, c3⟩ := it
      exact PySem.P.str_of_C_one hu ⟨I.kIn, oe, vs, b1, b2, b4, b5⟩ ⟨ot, n, c1, c2, c3⟩ h1 h2 ⟨.str x, H, I, ⟨tk, rfl⟩, q⟩
  · cases q
def strEt (l : List Nat) : D → Option Vr
  | .err c fs => if l.contains c then strE (.err c fs) else none
  | _ => none
theorem boot_str : bootBuiltins "str" = some (.type "str") := by with_unfolding_all rfl
theorem d_strE {e : Expr} {ma : M g.R.S Vr} {p pos : Pos} {k : Nat} {l : List Nat} (o : XO g k X) (hg : Gl X "str") (hm : X.mg "str" = none) (T : ∀ c, l.contains c = true → StrC g.K (g.cls c)) (ha : DE g X e ma)
    (he : starEach [e] X.env = (false, eval e X.env) :: starEach [] X.env := by rfl) (hpl : (backTo pos (starEach [] X.env)).any (·.1) = false := by rfl) :
    DE g X (.Call (.Name "str" p) [e] [] pos) (mOp1 (strEt l) ma) :=
  PE.imp (pe_callTy (call_strE (g := g) (by have := o.hu64; omega)) hg hm boot_str (pa_cons ha pa_nil he) (by decide) (by decide) he hpl) fun σ H Q ⟨F, s, res, s', I, e, k⟩ => by
    unfold mOp1 at e
    obtain ⟨⟨r, s1⟩, e1, e⟩ := Option.bind_eq_some_iff.mp e
    obtain ⟨x, e2, e⟩ := Option.bind_eq_some_iff.mp e
    obtain ⟨z, e3, e⟩ := Option.map_eq_some_iff.mp e
    cases e
    refine tM_soft I e1 fun F1 v H1 I1 K1 w1 => ?_
    have p := w1.pk I1 e2
    unfold strEt at e3
    split at e3
    · split at e3
      · rename_i ht
        obtain ⟨c', y, ed, rfl⟩ := strE_inv e3
        cases ed
        exact ⟨F1, v, _, y, rfl, I1.sub, p, by rw [o.K]; exact T _ ht, k F1 _ H1 I1 K1 (.str _)⟩
      · cases e3
    · cases e3
end
end RW
namespace RW
open PySem L2
theorem bind_pos {fd : FuncData} {a1 a2 : Arg} {p : Str} {u0 u1 : Value} (h : fd.params = ⟨[], [a1, a2], none, [], [], none, []⟩) (h1 : a1.arg = "self") (h2 : a2.arg = p) (hd : fd.defaults = .none) (hp : p ≠ "self") :
    bindArgs fd ⟨[u0, u1], []⟩ = pure ((["self", p] : List Str).zip [u0, u1]) := by
  have n1 : ((p : Str) == ("self" : Str)) = false := by simpa using hp
  have n2 : (("self" : Str) == p) = false := by simpa using Ne.symm hp
  unfold bindArgs
  rw [h, hd]
  simp [h1, h2, n1, n2, List.lookup, seqItems?]
  rfl
theorem bind_kw {fd : FuncData} {a1 a2 : Arg} {p : Str} {u0 u1 : Value} (h : fd.params = ⟨[], [a1, a2], none, [], [], none, []⟩) (h1 : a1.arg = "self") (h2 : a2.arg = p) (hd : fd.defaults = .none) (hp : p ≠ "self") :
    bindArgs fd ⟨[u0], [(p, u1)]⟩ = pure ((["self", p] : List Str).zip [u0, u1]) := by
  have n1 : ((p : Str) == ("self" : Str)) = false := by simpa using hp
  have n2 : (("self" : Str) == p) = false := by simpa using Ne.symm hp
  unfold bindArgs
  rw [h, hd]
  simp [h1, h2, n1, n2, List.lookup, seqItems?]
  rfl
def exoB (K : PySem.W.Frag) (C : Addr) : Bool := match K.lookup C with
  | some ⟨.type "type", _, .cls cd, sl⟩ => (match cd.mro, sl.toList with
    | .ref C' :: bm, [_, _, _, _, some (.builtin n), _] => C' == C && (n == "ValueError.__new__" && (!cd.hasDel && (cd.hasDict && PySem.HandSPX.refsVE bm)))
    | _, _ => false)
  | _ => false
theorem exoB_ok {K : PySem.W.Frag} {C : Addr} (h : exoB K C = true) : ∃ nm q N bs bm sn sub ab col dd k0 k1 k2 k3 k5, K.lookup C = some (excClassObj nm q C N bs bm true sn sub ab col dd k0 k1 k2 k3 k5 "ValueError.__new__") ∧ PySem.HandSPX.refsVE bm = true := by
  unfold exoB at h
  split at h
  · rename_i dd cd sl ho
    split at h
    · rename_i C' bm k0 k1 k2 k3 n k5 hm hs
      simp only [Bool.and_eq_true, beq_iff_eq, Bool.not_eq_true'] at h
      obtain ⟨rfl, rfl, hdel, hdict, ht⟩ := h
      obtain ⟨nm, bs, mro, ns, qn, hd, sn, sub, ab, col, del⟩ := cd
      dsimp only at hm hdel hdict
      subst hm hdel hdict
      have hsl : sl = #[k0, k1, k2, k3, some (.builtin "ValueError.__new__"), k5] := by
        obtain ⟨l⟩ := sl
        simp only at hs
        rw [hs]
      subst hsl
      exact ⟨nm, qn, ns, bs, bm, sn, sub, ab, col, dd, k0, k1, k2, k3, k5, ho, ht⟩
    · cases h
  · cases h
def bodyB (p f : Str) : FuncBody → Bool
  | .stmts [.Expr (.Call (.Attribute (.Call (.Name s1 _) [] [] _) i1 q2) [.Name p1 _] [] q4) _, .Assign [.Attribute (.Name s2 _) f1 _] (.Name p2 _) _] =>
    s1 == "super" && (i1 == "__init__" && (p1 == p && (s2 == "self" && (f1 == f && (p2 == p && (q2.endLine == q4.line))))))
  | _ => false
theorem bodyB_ok {p f : Str} {b : FuncBody} (h : bodyB p f b = true) : ∃ q0 q1 q2 q3 q4 q5 q6 q7 q8 q9 : Pos, (q2.endLine == q4.line) = true ∧ b = .stmts [.Expr (.Call (.Attribute (.Call (.Name "super" q0) [] [] q1) "__init__" q2) [.Name p q3] [] q4) q5, .Assign [.Attribute (.Name "self" q6) f q7] (.Name p q8) q9] := by
  unfold bodyB at h
  split at h
  · simp only [Bool.and_eq_true, beq_iff_eq] at h
    obtain ⟨h1, h2, h3, h4, h5, h6, h7⟩ := h
    subst h1 h2 h3 h4 h5 h6
    exact ⟨_, _, _, _, _, _, _, _, _, _, by rw [h7]; simp, rfl⟩
  · cases h
def fdB (K : PySem.W.Frag) (C : Addr) (file p f : Str) (fd : FuncData) : Bool :=
  bodyB p f fd.body && (decide (fd.globals = mainGlobals) && (decide (fd.builtins = builtinsNs) && (decide (fd.scope.kind = .function) && (!fd.scope.isCoroutine && (!fd.scope.isGenerator && (fd.scope.names.all (fun x => !decide (x.2 = .cell)) &&
  (decide (fd.scope.names.lookup ("self" : Str) = some .local) && (decide (fd.scope.names.lookup p = some .local) && (decide (fd.scope.names.lookup ("super" : Str) = some .globalImplicit) && (decide (fd.scope.names.lookup ("__class__" : Str) = some .free) &&
  (fd.scope.names.all (fun x => !decide (x.2 = .free) || x.1 == "__class__") &&
  ((match fd.params with
    | ⟨[], [a1, a2], none, [], [], none, []⟩ => a1.arg == "self" && a2.arg == p
    | _ => false) &&
  ((match fd.defaults with
    | .none => true
    | _ => false) &&
  ((match fd.closure with
    | [(n, cc)] => n == "__class__" && (match K.lookup cc with
      | some ⟨_, _, .cell (some (.ref C')), _⟩ => C' == C
      | _ => false)
    | _ => false) &&
  ((match fd.code with
    | .ref cd => (match K.lookup cd with
      | some ⟨_, _, .fields vs, _⟩ => (match (show Option Value from vs[2]?) with
        | some (.str fl _) => fl == file
        | _ => false)
      | _ => false)
    | _ => false) && PySem.W.codeIn K fd.code fd.qualname)))))))))))))))
structure PrOk (P : Program) (file : Str) : Prop where
  file : (P.main.file : Str) = file
  top : (P.main.scope.names.lookup ("super" : Str)).isSome = false
theorem fdB_ok {K : PySem.W.Frag} {P : Program} {C fI : Addr} {file p f : Str} {fd : FuncData} {oc : Value} {od : Option Addr} {osl : Array (Option Value)} (pr : PrOk P file) (lk : K.lookup fI = some ⟨oc, od, .func fd, osl⟩) (h : fdB K C file p f fd = true) (hp : p ≠ "self") (hd : (p == ("__debug__" : Str)) = false) (hc : (p == ("__classdict__" : Str)) = false) :
    InitF K P C fI p f fd ∧ (∀ u0 u1, bindArgs fd ⟨[u0, u1], []⟩ = pure ((["self", p] : List Str).zip [u0, u1])) ∧ ∀ u0 u1, bindArgs fd ⟨[u0], [(p, u1)]⟩ = pure ((["self", p] : List Str).zip [u0, u1]) := by
  unfold fdB at h
  simp only [Bool.and_eq_true, decide_eq_true_eq, Bool.not_eq_true', List.all_eq_true, decide_eq_false_iff_not, Bool.or_eq_true, beq_iff_eq] at h
  obtain ⟨h1, h2, h3, h4, h5, h6, h7, h8, h9, h10, h11, h12, h13, h14, h15, h16, h17⟩ := h
  split at h13
  · rename_i a1 a2 hpar
    simp only [Bool.and_eq_true, beq_iff_eq] at h13
    obtain ⟨e1, e2⟩ := h13
    split at h14
    · rename_i hdf
      refine ⟨⟨⟨_, _, _, lk⟩, bodyB_ok h1, h2, h3, h4, h5, h6, h7, h8, h9, h10, h11, fun x hx => ?_, ⟨a1, by rw [hpar]; rfl, e1⟩, ?_, ?_, h17, pr.top, hp, hd, hc⟩, fun u0 u1 => bind_pos hpar e1 e2 hdf hp, fun u0 u1 => bind_kw hpar e1 e2 hdf hp⟩
      · rcases h12 _ (PySem.mem_of_lookup hx) with z | z
        · exact absurd rfl z
        · exact z
      · split at h15
        · rename_i n cc hcl
          simp only [Bool.and_eq_true, beq_iff_eq] at h15
          obtain ⟨rfl, h15⟩ := h15
          split at h15
          · rename_i C' _ hcc
            have : C' = C := by simpa using h15
            subst this
            exact ⟨cc, _, hcl, hcc, rfl⟩
          · cases h15
        · cases h15
      · split at h16
        · rename_i cd hcd
          split at h16
          · rename_i vs _ hk
            split at h16
            · rename_i fl tf hv
              refine ⟨cd, _, vs, fl, tf, hcd, hk, rfl, hv, ?_⟩
              have : fl = file := by simpa using h16
              rw [pr.file, this]
              simp
            · cases h16
          · cases h16
        · cases h16
    · cases h14
  · cases h13
def etab (l : List (Nat × Bool)) (c : Nat) : Option Bool := l.lookup c
def veB : List Value := [.type "ValueError", .type "Exception", .type "BaseException", .type "object"]
def erB (K : PySem.W.Frag) (C : Addr) : Bool :=
  He.eqO (PySem.W.findIn K (.ref C) "__getattribute__") (some (some (.builtin "BaseException.__getattribute__"))) && (He.eqO (PySem.W.findIn K (.ref C) "__getattr__") (some none) && ((PySem.W.subIn K (.ref C) (.type "BaseException") == some true) && (PySem.W.hasDictIn K C && (He.eqO (PySem.W.findIn K (.ref C) "__class__") (some (some (.builtin "object.__class__"))) &&
  (He.eqO (PySem.W.specialIn K (.builtin "object.__class__") "__get__") (some (some (.builtin "getset_descriptor.__get__"))) && ((PySem.W.takesIn K (.builtin "object.__class__") == some true) && (PySem.W.mroIn K C (.type "object") == some true)))))))
theorem erB_ok {K : PySem.W.Frag} {C : Addr} (h : erB K C = true) : ErC K C := by
  unfold erB at h
  simp only [Bool.and_eq_true, beq_iff_eq] at h
  obtain ⟨h1, h2, h3, h4, h5, h6, h7, h8⟩ := h
  exact ⟨He.eqO_ok h1, He.eqO_ok h2, h3, h4, He.eqO_ok h5, He.eqO_ok h6, h7, h8⟩
def ercsB (K : PySem.W.Frag) (cls : Nat → Addr) (l : List Nat) : Bool := l.all fun c => erB K (cls c)
def kitsB (K : PySem.W.Frag) (cls : Nat → Addr) (u : Value) (l : List (Nat × Bool)) : Bool := tyL.all (fun n => PySem.W.kitOne K (.type n) u == some false) && l.all (fun p => PySem.W.kitOne K (.ref (cls p.1)) u == some p.2)
theorem isTab_of {g : G} {u : Value} {l : List (Nat × Bool)} (h1 : ercsB g.K g.cls (l.map (·.1)) = true) (h2 : kitsB g.K g.cls u l = true) : IsTab g u (etab l) := by
  unfold kitsB at h2
  simp only [Bool.and_eq_true, List.all_eq_true, beq_iff_eq] at h2
  unfold ercsB at h1
  simp only [List.all_eq_true] at h1
  refine ⟨fun n hn => h2.1 n hn, fun k b e => ?_⟩
  have hm : (k, b) ∈ l := by
    have key : ∀ {l : List (Nat × Bool)}, l.lookup k = some b → (k, b) ∈ l := by
      intro l
      induction l with
      | nil => intro h; cases h
      | cons p l ih =>
        intro h
        obtain ⟨i, x⟩ := p
        rw [List.lookup_cons] at h
        by_cases hk : k == i
        · rw [hk] at h
          have : k = i := by simpa using hk
          cases h
          rw [this]
          exact List.mem_cons_self
        · have hk' : (k == i) = false := by simpa using hk
          rw [hk'] at h
          exact List.mem_cons_of_mem _ (ih h)
    exact key e
  exact ⟨erB_ok (h1 k (List.mem_map.mpr ⟨_, hm, rfl⟩)), h2.2 _ hm⟩
def fldsB (K : PySem.W.Frag) (cls : Nat → Addr) (l : List Nat) (f : Str) : Bool := l.all fun c => He.eqO (PySem.W.findIn K (.ref (cls c)) f) (some none)
theorem flds_of {g : G} {l : List Nat} {f : Str} (h1 : ercsB g.K g.cls l = true) (h2 : fldsB g.K g.cls l f = true) : ∀ c, l.contains c = true → ErC g.K (g.cls c) ∧ PySem.W.findIn g.K (.ref (g.cls c)) f = some none := fun c hc => by
  unfold ercsB at h1
  unfold fldsB at h2
  simp only [List.all_eq_true] at h1 h2
  have hm : c ∈ l := by simpa using hc
  exact ⟨erB_ok (h1 c hm), He.eqO_ok (h2 c hm)⟩
def estrsB (K : PySem.W.Frag) (cls : Nat → Addr) (l : List Nat) : Bool := l.all fun c => He.eqO (PySem.W.findIn K (.ref (cls c)) "__str__") (some (some (.builtin "BaseException.__str__"))) && (PySem.W.subIn K (.ref (cls c)) (.type "BaseException") == some true)
theorem strs_of {g : G} {l : List Nat} (h : estrsB g.K g.cls l = true) : ∀ c, l.contains c = true → StrC g.K (g.cls c) := fun c hc => by
  unfold estrsB at h
  simp only [List.all_eq_true, Bool.and_eq_true, beq_iff_eq] at h
  have hm : c ∈ l := by simpa using hc
  exact ⟨He.eqO_ok (h c hm).1, (h c hm).2⟩
def plainB (K : PySem.W.Frag) (C : Addr) : Bool := PySem.W.excIn K C veB "ValueError.__new__" && PySem.W.keepIn K (.ref C)
def oexB (K : PySem.W.Frag) (C : Addr) (file p f : Str) : Bool :=
  exoB K C && (He.eqO (PySem.W.findIn K (.ref C) "__setattr__") (some (some (.builtin "object.__setattr__"))) && ((PySem.W.subIn K (.ref C) (.type "BaseException") == some true) && ((PySem.W.typeIn K (.ref C) == some (.type "type")) && (PySem.W.keepIn K (.ref C) &&
  ((match PySem.W.findIn K (.ref C) "__init__" with
    | some (some (.ref fI)) => (PySem.W.typeIn K (.ref fI) == some (.type "function")) && (match K.lookup fI with
      | some ⟨_, _, .func fd, _⟩ => fdB K C file p f fd
      | _ => false)
    | _ => false) &&
  (He.eqO (PySem.W.nsIn K cStatics "thirdparty.any") (some none) && (He.eqO (PySem.W.findIn K (.ref C) f) (some none) &&
  ((match PySem.W.clsIn K C with
    | some cd => He.eqO (PySem.W.alongIn K "__init__" ((cd.mro.dropWhile (· != .ref C)).drop 1)) (some (some (.builtin "ValueError.__init__")))
    | none => false) &&
  ((PySem.W.subIn K (.ref C) (.type "ValueError") == some true) && (PySem.W.subIn K (.ref C) (.ref C) == some true))))))))))
theorem oexB_ok {g : G} {P : Program} {c : Nat} {file p f : Str} (pr : PrOk P file) (h : oexB g.K (g.cls c) file p f = true) (hp : p ≠ "self" := by decide) (hd : (p == ("__debug__" : Str)) = false := by decide) (hc : (p == ("__classdict__" : Str)) = false := by decide) : OEx g P c f p := by
  unfold oexB at h
  simp only [Bool.and_eq_true, beq_iff_eq] at h
  obtain ⟨h1, h2, h3, h4, h5, h6, h7, h8, h9, h10, h11⟩ := h
  refine ⟨⟨exoB_ok h1, He.eqO_ok h2, h3, h4, h5⟩, ?_, He.eqO_ok h7, He.eqO_ok h8, ?_, h10, h11⟩
  · split at h6
    · rename_i fI hf
      simp only [Bool.and_eq_true, beq_iff_eq] at h6
      obtain ⟨h6, h12⟩ := h6
      split at h12
      · rename_i oc od fd osl lk
        exact ⟨fI, fd, hf, h6, fdB_ok pr lk h12 hp hd hc⟩
      · cases h12
    · cases h6
  · split at h9
    · rename_i cd hcd
      exact ⟨cd, hcd, He.eqO_ok h9⟩
    · cases h9
end RW
set_option maxHeartbeats 0
namespace RW
open PySem L2
def top (i : Nat) : Stmt := PySem.Challenge.pw_roundways_k01_errors_by_hand.main.body.getD i (.Pass ⟨0, 0, 0, 0⟩)
def fn0 : List He.DefD := [⟨("_law_begin", none), "_law_begin", "_law_begin", defArgs (top 22), defBody (top 22), defScope (top 22), [], []⟩, ⟨("_law_blend", none), "_law_blend", "_law_blend", defArgs (top 23), defBody (top 23), defScope (top 23), [], []⟩, ⟨("_law_pick", none), "_law_pick", "_law_pick", defArgs (top 24), defBody (top 24), defScope (top 24), [], []⟩, ⟨("_law_take", none), "_law_take", "_law_take", defArgs (top 25), defBody (top 25), defScope (top 25), [], []⟩, ⟨("_law_marks", none), "_law_marks", "_law_marks", defArgs (top 26), defBody (top 26), defScope (top 26), [], []⟩, ⟨("_law_alone", none), "_law_alone", "_law_alone", defArgs (top 27), defBody (top 27), defScope (top 27), [], []⟩, ⟨("_law_plain", none), "_law_plain", "_law_plain", defArgs (top 28), defBody (top 28), defScope (top 28), [], []⟩, ⟨("_law_with_fields", none), "_law_with_fields", "_law_with_fields", defArgs (top 29), defBody (top 29), defScope (top 29), [], []⟩, ⟨("law", none), "law", "law", defArgs (top 30), defBody (top 30), defScope (top 30), [], []⟩]
def fn : List He.DefD := fn0
def fa0 : List He.Fa := [.glo "WayError", .glo "BadNet", .glo "NoGoal", .glo "NoNode", .glo "BadPlace", .glo "BadLot", .glo "BadWish", .glo "BadWishes", .glo "BadPlan", .glo "BadNumber", .glo "BadSights", .glo "RoundOpen", .glo "Unsafe", .glo "NotSo", .glo "NoRound", .glo "HalfDone", .glo "NoPacket", .glo "NothingDone", .glo "BadJournal", .glo "BadText", .glo "_law_begin", .glo "_law_blend", .glo "_law_pick", .glo "_law_take", .glo "_law_marks", .glo "_law_alone", .glo "_law_plain", .glo "_law_with_fields", .glo "law", .free "ValueError"]
def fa1 : List He.Fa := [.free "super", .free "len", .free "isinstance", .free "sorted", .free "tuple", .free "all", .free "any", .free "range", .free "list", .free "dict", .free "int", .free "repr", .free "min", .free "max", .free "abs", .free "enumerate", .free "set", .free "zip", .free "str", .free "sum", .free "bool"]
def fa : List He.Fa := fa0 ++ fa1
def nms0 : List PySem.Str := ["WayError", "BadNet", "NoGoal", "NoNode", "BadPlace", "BadLot", "BadWish", "BadWishes", "BadPlan", "BadNumber", "BadSights", "RoundOpen", "Unsafe", "NotSo", "NoRound", "HalfDone", "NoPacket", "NothingDone", "BadJournal", "BadText", "_law_begin", "_law_blend", "_law_pick", "_law_take", "_law_marks", "_law_alone", "_law_plain", "_law_with_fields"]
def nms : List PySem.Str := nms0
def gts : List GetD := []
def clsOf (K : PySem.W.Frag) : Nat → Addr := fun c => match c with | 2000 => He.ga K "WayError" | 2001 => He.ga K "BadNet" | 2002 => He.ga K "NoGoal" | 2003 => He.ga K "NoNode" | 2004 => He.ga K "BadPlace" | 2005 => He.ga K "BadLot" | 2006 => He.ga K "BadWish" | 2007 => He.ga K "BadWishes" | 2008 => He.ga K "BadPlan" | 2009 => He.ga K "BadNumber" | 2010 => He.ga K "BadSights" | 2011 => He.ga K "RoundOpen" | 2012 => He.ga K "Unsafe" | 2013 => He.ga K "NotSo" | 2014 => He.ga K "NoRound" | 2015 => He.ga K "HalfDone" | 2016 => He.ga K "NoPacket" | 2017 => He.ga K "NothingDone" | 2018 => He.ga K "BadJournal" | 2019 => He.ga K "BadText" | _ => 0
def exB (K : PySem.W.Frag) : Bool := (ercsB K (clsOf K) [2000, 2001, 2002, 2003, 2004, 2005, 2006, 2007, 2008, 2009, 2010, 2011, 2012, 2013, 2014, 2015, 2016, 2017, 2018, 2019]) && (kitsB K (clsOf K) (.ref (clsOf K 2018)) [(2000, false), (2001, false), (2002, false), (2003, false), (2004, false), (2005, false), (2006, false), (2007, false), (2008, false), (2009, false), (2010, false), (2011, false), (2012, false), (2013, false), (2014, false), (2015, false), (2016, false), (2017, false), (2018, true), (2019, false)]) && (kitsB K (clsOf K) (.ref (clsOf K 2005)) [(2000, false), (2001, false), (2002, false), (2003, false), (2004, false), (2005, true), (2006, false), (2007, false), (2008, false), (2009, false), (2010, false), (2011, false), (2012, false), (2013, false), (2014, false), (2015, false), (2016, false), (2017, false), (2018, false), (2019, false)]) && (kitsB K (clsOf K) (.ref (clsOf K 2001)) [(2000, false), (2001, true), (2002, false), (2003, false), (2004, false), (2005, false), (2006, false), (2007, false), (2008, false), (2009, false), (2010, false), (2011, false), (2012, false), (2013, false), (2014, false), (2015, false), (2016, false), (2017, false), (2018, false), (2019, false)]) && (kitsB K (clsOf K) (.ref (clsOf K 2009)) [(2000, false), (2001, false), (2002, false), (2003, false), (2004, false), (2005, false), (2006, false), (2007, false), (2008, false), (2009, true), (2010, false), (2011, false), (2012, false), (2013, false), (2014, false), (2015, false), (2016, false), (2017, false), (2018, false), (2019, false)]) && (kitsB K (clsOf K) (.ref (clsOf K 2004)) [(2000, false), (2001, false), (2002, false), (2003, false), (2004, true), (2005, false), (2006, false), (2007, false), (2008, false), (2009, false), (2010, false), (2011, false), (2012, false), (2013, false), (2014, false), (2015, false), (2016, false), (2017, false), (2018, false), (2019, false)]) && (kitsB K (clsOf K) (.ref (clsOf K 2008)) [(2000, false), (2001, false), (2002, false), (2003, false), (2004, false), (2005, false), (2006, false), (2007, false), (2008, true), (2009, false), (2010, false), (2011, false), (2012, false), (2013, false), (2014, false), (2015, false), (2016, false), (2017, false), (2018, false), (2019, false)]) && (kitsB K (clsOf K) (.ref (clsOf K 2010)) [(2000, false), (2001, false), (2002, false), (2003, false), (2004, false), (2005, false), (2006, false), (2007, false), (2008, false), (2009, false), (2010, true), (2011, false), (2012, false), (2013, false), (2014, false), (2015, false), (2016, false), (2017, false), (2018, false), (2019, false)]) && (kitsB K (clsOf K) (.ref (clsOf K 2019)) [(2000, false), (2001, false), (2002, false), (2003, false), (2004, false), (2005, false), (2006, false), (2007, false), (2008, false), (2009, false), (2010, false), (2011, false), (2012, false), (2013, false), (2014, false), (2015, false), (2016, false), (2017, false), (2018, false), (2019, true)]) && (kitsB K (clsOf K) (.ref (clsOf K 2006)) [(2000, false), (2001, false), (2002, false), (2003, false), (2004, false), (2005, false), (2006, true), (2007, false), (2008, false), (2009, false), (2010, false), (2011, false), (2012, false), (2013, false), (2014, false), (2015, false), (2016, false), (2017, false), (2018, false), (2019, false)]) && (kitsB K (clsOf K) (.ref (clsOf K 2007)) [(2000, false), (2001, false), (2002, false), (2003, false), (2004, false), (2005, false), (2006, false), (2007, true), (2008, false), (2009, false), (2010, false), (2011, false), (2012, false), (2013, false), (2014, false), (2015, false), (2016, false), (2017, false), (2018, false), (2019, false)]) && (kitsB K (clsOf K) (.ref (clsOf K 2015)) [(2000, false), (2001, false), (2002, false), (2003, false), (2004, false), (2005, false), (2006, false), (2007, false), (2008, false), (2009, false), (2010, false), (2011, false), (2012, false), (2013, false), (2014, false), (2015, true), (2016, false), (2017, false), (2018, false), (2019, false)]) && (kitsB K (clsOf K) (.ref (clsOf K 2002)) [(2000, false), (2001, false), (2002, true), (2003, false), (2004, false), (2005, false), (2006, false), (2007, false), (2008, false), (2009, false), (2010, false), (2011, false), (2012, false), (2013, false), (2014, false), (2015, false), (2016, false), (2017, false), (2018, false), (2019, false)]) && (kitsB K (clsOf K) (.ref (clsOf K 2003)) [(2000, false), (2001, false), (2002, false), (2003, true), (2004, false), (2005, false), (2006, false), (2007, false), (2008, false), (2009, false), (2010, false), (2011, false), (2012, false), (2013, false), (2014, false), (2015, false), (2016, false), (2017, false), (2018, false), (2019, false)]) && (kitsB K (clsOf K) (.ref (clsOf K 2016)) [(2000, false), (2001, false), (2002, false), (2003, false), (2004, false), (2005, false), (2006, false), (2007, false), (2008, false), (2009, false), (2010, false), (2011, false), (2012, false), (2013, false), (2014, false), (2015, false), (2016, true), (2017, false), (2018, false), (2019, false)]) && (kitsB K (clsOf K) (.ref (clsOf K 2014)) [(2000, false), (2001, false), (2002, false), (2003, false), (2004, false), (2005, false), (2006, false), (2007, false), (2008, false), (2009, false), (2010, false), (2011, false), (2012, false), (2013, false), (2014, true), (2015, false), (2016, false), (2017, false), (2018, false), (2019, false)]) && (kitsB K (clsOf K) (.ref (clsOf K 2013)) [(2000, false), (2001, false), (2002, false), (2003, false), (2004, false), (2005, false), (2006, false), (2007, false), (2008, false), (2009, false), (2010, false), (2011, false), (2012, false), (2013, true), (2014, false), (2015, false), (2016, false), (2017, false), (2018, false), (2019, false)]) && (kitsB K (clsOf K) (.ref (clsOf K 2017)) [(2000, false), (2001, false), (2002, false), (2003, false), (2004, false), (2005, false), (2006, false), (2007, false), (2008, false), (2009, false), (2010, false), (2011, false), (2012, false), (2013, false), (2014, false), (2015, false), (2016, false), (2017, true), (2018, false), (2019, false)]) && (kitsB K (clsOf K) (.ref (clsOf K 2011)) [(2000, false), (2001, false), (2002, false), (2003, false), (2004, false), (2005, false), (2006, false), (2007, false), (2008, false), (2009, false), (2010, false), (2011, true), (2012, false), (2013, false), (2014, false), (2015, false), (2016, false), (2017, false), (2018, false), (2019, false)]) && (kitsB K (clsOf K) (.ref (clsOf K 2012)) [(2000, false), (2001, false), (2002, false), (2003, false), (2004, false), (2005, false), (2006, false), (2007, false), (2008, false), (2009, false), (2010, false), (2011, false), (2012, true), (2013, false), (2014, false), (2015, false), (2016, false), (2017, false), (2018, false), (2019, false)]) && (kitsB K (clsOf K) (.type "ValueError") [(2000, true), (2001, true), (2002, true), (2003, true), (2004, true), (2005, true), (2006, true), (2007, true), (2008, true), (2009, true), (2010, true), (2011, true), (2012, true), (2013, true), (2014, true), (2015, true), (2016, true), (2017, true), (2018, true), (2019, true)]) && (kitsB K (clsOf K) (.ref (clsOf K 2000)) [(2000, true), (2001, true), (2002, true), (2003, true), (2004, true), (2005, true), (2006, true), (2007, true), (2008, true), (2009, true), (2010, true), (2011, true), (2012, true), (2013, true), (2014, true), (2015, true), (2016, true), (2017, true), (2018, true), (2019, true)]) && (ercsB K (clsOf K) [2008, 2010, 2018]) && (fldsB K (clsOf K) [2008, 2010, 2018] "at") && (ercsB K (clsOf K) [2002]) && (fldsB K (clsOf K) [2002] "goal") && (ercsB K (clsOf K) [2019]) && (fldsB K (clsOf K) [2019] "line") && (ercsB K (clsOf K) [2003, 2013]) && (fldsB K (clsOf K) [2003, 2013] "node") && (ercsB K (clsOf K) [2009]) && (fldsB K (clsOf K) [2009] "number") && (ercsB K (clsOf K) [2016]) && (fldsB K (clsOf K) [2016] "packet") && (ercsB K (clsOf K) [2001, 2005]) && (fldsB K (clsOf K) [2001, 2005] "part") && (ercsB K (clsOf K) [2012]) && (fldsB K (clsOf K) [2012] "wish") && (estrsB K (clsOf K) [2000, 2004, 2006, 2007, 2011, 2014, 2015, 2017]) && (oexB K (clsOf K 2018) "/claim/cut.py" "at" "at") && (oexB K (clsOf K 2005) "/claim/cut.py" "part" "part") && (oexB K (clsOf K 2001) "/claim/cut.py" "part" "part") && (oexB K (clsOf K 2009) "/claim/cut.py" "number" "number") && (plainB K (clsOf K 2004)) && (oexB K (clsOf K 2008) "/claim/cut.py" "at" "at") && (oexB K (clsOf K 2010) "/claim/cut.py" "at" "at") && (oexB K (clsOf K 2019) "/claim/cut.py" "line" "line") && (plainB K (clsOf K 2006)) && (plainB K (clsOf K 2007)) && (plainB K (clsOf K 2015)) && (oexB K (clsOf K 2002) "/claim/cut.py" "goal" "goal") && (oexB K (clsOf K 2003) "/claim/cut.py" "node" "node") && (oexB K (clsOf K 2016) "/claim/cut.py" "packet" "packet") && (plainB K (clsOf K 2014)) && (oexB K (clsOf K 2013) "/claim/cut.py" "node" "node") && (plainB K (clsOf K 2017)) && (plainB K (clsOf K 2011)) && (oexB K (clsOf K 2012) "/claim/cut.py" "wish" "wish") && (plainB K (clsOf K 2000))
abbrev Ro : PySem.W.OpenRow := PySem.W.OpenLaw.row PySem.Challenge.rw_roundways_k01_errors_by_hand
abbrev hk : PySem.W.Hook := hookQ 1000 fa fn gts exB
def ob (s : PySem.W.SharedT) : ((Bool × Bool) × He.AlD) × He.AlD := obsQ 1000 fa fn gts exB (HandSHeadRun.getT s)
theorem ob_eq (s : PySem.W.SharedT) : ob s = hk.obs s.abs := obsQ_eq (HandSHeadRun.getT_eq s)
theorem run_a (w : World) : RunA Ro (PySem.W.view Ro.prog [30]) 8000 nms w := by
  intro os
  kernel_rfl
theorem run_b (w : World) : RunB Ro hk ob 8000 w := by
  intro os
  kernel_rfl
theorem run (w : World) : HandSHeadRun.RunEq Ro (PySem.W.view Ro.prog [30]) hk ob 8000 nms w := run_of (run_a w) (run_b w)
end RW
namespace RW
open PySem L2
def m__law_begin {R : Type} (T : Fm R) : MS R := mSeq (mSet 1 (mLc [2] (mIt itemsOf (mV 0)) (.nm 2) (mOp2 geI (mOp1 absD (mV 2)) (mOp2 (o2I iPow) (mC (.int 10)) (mC (.int 18)))) (mOp2 (o2I fun i j => some (.int (i - j))) (mOp1 absD (mV 2)) (mOp2 (o2I iPow) (mC (.int 10)) (mC (.int 18)))))) (mRt (mDisp ((mC (.str "great"), mV 1) :: (mC (.str "rest"), mC (.int 0)) :: (mC (.str "cells"), mLc [2] (mIt itemsOf (mV 0)) (.nm 2) (mC (.bl true)) (mOp1 absD (mV 2))) :: (mC (.str "turn"), mC (.int 0)) :: [])))
def f__law_begin {R : Type} (T : Fm R) : Fm R := fnM 3 (m__law_begin T)
def m__law_pick {R : Type} (T : Fm R) : MS R := mRt (mOp2 idxD (mV 1) (mCall T (mArgs [mV 0, mOp1 lenD (mV 1)])))
def f__law_pick {R : Type} (T : Fm R) : Fm R := fnM 2 (m__law_pick T)
def m_blendR : MS Unit := mSeq (mSet 2 (mC (.int 0))) (mSeq (mFor (mIt itemsOf (mLst (mArgs [mC (.int 2147483629), mC (.int 2147483587), mC (.int 2147483579), mC (.int 2147483563)]))) (.nm 3) (mSeq (mSet 4 (mOp2 (o2I iMod) (mOp1 intD (mOp2 addD (mOp2 mulD (mV 1) (mC (.int 69621))) (mOp2 (o2I iDiv) (mV 3) (mC (.int 7))))) (mV 3))) (mSeq (mFor (mIt itemsOf (mOp2 idxD (mV 0) (mC (.str "cells")))) (.nm 5) (mSet 4 (mOp2 (o2I iMod) (mOp1 intD (mOp2 addD (mOp2 mulD (mV 4) (mC (.int 48271))) (mV 5))) (mV 3)))) (mSet 2 (mOp2 addD (mOp2 mulD (mV 2) (mC (.int 2147483647))) (mOp2 (o2I iMod) (mOp1 intD (mOp2 (o2I iPow) (mV 4) (mC (.int 5)))) (mV 3))))))) (mRt (mV 2)))
def m_blend : MS Dr := mSeq (mSet 1 (mOp2 addD (mRG 0 Dr.turn) (mC (.int 1)))) (mSeq (mRP 0 (fun r n => { r with turn := n }) (mV 1)) (mFrz m_blendR))
def f_blend : Fm Dr := fnM 6 m_blend
def m_take (b : Bool) : MS Dr := mSeq (mIte (mAnd (mOp2 eqD (mRG 0 Dr.rest) (mC (.int 0))) (mRB 0 fun r => !decide (r.great = []))) (mRP 0 (fun r n => { r with rest := n }) (mRPop b 0)) mNx) (mSeq (mIte (mOp2 eqD (mRG 0 Dr.rest) (mC (.int 0))) (mRP 0 (fun r n => { r with rest := n }) (mCall f_blend (mArgs [mV 0]))) mNx) (mSeq (mSet 2 (mOp2 (o2I iMod) (mOp1 intD (mRG 0 Dr.rest)) (mV 1))) (mSeq (mRP 0 (fun r n => { r with rest := n }) (mOp2 (o2I iDiv) (mRG 0 Dr.rest) (mV 1))) (mRt (mV 2)))))
def f_take (b : Bool) : Fm Dr := fnM 3 (m_take b)
def m_begin1 : MS Unit := mSet 1 (mCall (f__law_begin fun _ _ => none) (mArgs [mV 0]))
end RW
namespace RW
open PySem L2
def m__law_marks_2 {R : Type} (T : Fm R) : MS R := mSeq (mSet 1 (mLst (mArgs [mOp1 (isiE (etab [(2000, false), (2001, true), (2002, false), (2003, false), (2004, false), (2005, false), (2006, false), (2007, false), (2008, false), (2009, false), (2010, false), (2011, false), (2012, false), (2013, false), (2014, false), (2015, false), (2016, false), (2017, false), (2018, false), (2019, false)])) (mV 0), mOp1 (isiE (etab [(2000, false), (2001, false), (2002, true), (2003, false), (2004, false), (2005, false), (2006, false), (2007, false), (2008, false), (2009, false), (2010, false), (2011, false), (2012, false), (2013, false), (2014, false), (2015, false), (2016, false), (2017, false), (2018, false), (2019, false)])) (mV 0), mOp1 (isiE (etab [(2000, false), (2001, false), (2002, false), (2003, true), (2004, false), (2005, false), (2006, false), (2007, false), (2008, false), (2009, false), (2010, false), (2011, false), (2012, false), (2013, false), (2014, false), (2015, false), (2016, false), (2017, false), (2018, false), (2019, false)])) (mV 0)]))) (mSeq (mSet 1 (mOp2 addD (mV 1) (mLst (mArgs [mOp1 (isiE (etab [(2000, false), (2001, false), (2002, false), (2003, false), (2004, true), (2005, false), (2006, false), (2007, false), (2008, false), (2009, false), (2010, false), (2011, false), (2012, false), (2013, false), (2014, false), (2015, false), (2016, false), (2017, false), (2018, false), (2019, false)])) (mV 0), mOp1 (isiE (etab [(2000, false), (2001, false), (2002, false), (2003, false), (2004, false), (2005, true), (2006, false), (2007, false), (2008, false), (2009, false), (2010, false), (2011, false), (2012, false), (2013, false), (2014, false), (2015, false), (2016, false), (2017, false), (2018, false), (2019, false)])) (mV 0), mOp1 (isiE (etab [(2000, false), (2001, false), (2002, false), (2003, false), (2004, false), (2005, false), (2006, true), (2007, false), (2008, false), (2009, false), (2010, false), (2011, false), (2012, false), (2013, false), (2014, false), (2015, false), (2016, false), (2017, false), (2018, false), (2019, false)])) (mV 0)])))) (mSeq (mEx (mMut 1 isLst appL (mArgs [mOp1 (isiE (etab [(2000, false), (2001, false), (2002, false), (2003, false), (2004, false), (2005, false), (2006, false), (2007, true), (2008, false), (2009, false), (2010, false), (2011, false), (2012, false), (2013, false), (2014, false), (2015, false), (2016, false), (2017, false), (2018, false), (2019, false)])) (mV 0)]))) (mSeq (mSet 1 (mOp2 addD (mV 1) (mLst (mArgs [mOp1 (isiE (etab [(2000, false), (2001, false), (2002, false), (2003, false), (2004, false), (2005, false), (2006, false), (2007, false), (2008, true), (2009, false), (2010, false), (2011, false), (2012, false), (2013, false), (2014, false), (2015, false), (2016, false), (2017, false), (2018, false), (2019, false)])) (mV 0), mOp1 (isiE (etab [(2000, false), (2001, false), (2002, false), (2003, false), (2004, false), (2005, false), (2006, false), (2007, false), (2008, false), (2009, true), (2010, false), (2011, false), (2012, false), (2013, false), (2014, false), (2015, false), (2016, false), (2017, false), (2018, false), (2019, false)])) (mV 0), mOp1 (isiE (etab [(2000, false), (2001, false), (2002, false), (2003, false), (2004, false), (2005, false), (2006, false), (2007, false), (2008, false), (2009, false), (2010, true), (2011, false), (2012, false), (2013, false), (2014, false), (2015, false), (2016, false), (2017, false), (2018, false), (2019, false)])) (mV 0)])))) (mSeq (mSet 1 (mOp2 addD (mV 1) (mLst (mArgs [mOp1 (isiE (etab [(2000, false), (2001, false), (2002, false), (2003, false), (2004, false), (2005, false), (2006, false), (2007, false), (2008, false), (2009, false), (2010, false), (2011, true), (2012, false), (2013, false), (2014, false), (2015, false), (2016, false), (2017, false), (2018, false), (2019, false)])) (mV 0), mOp1 (isiE (etab [(2000, false), (2001, false), (2002, false), (2003, false), (2004, false), (2005, false), (2006, false), (2007, false), (2008, false), (2009, false), (2010, false), (2011, false), (2012, true), (2013, false), (2014, false), (2015, false), (2016, false), (2017, false), (2018, false), (2019, false)])) (mV 0), mOp1 (isiE (etab [(2000, false), (2001, false), (2002, false), (2003, false), (2004, false), (2005, false), (2006, false), (2007, false), (2008, false), (2009, false), (2010, false), (2011, false), (2012, false), (2013, true), (2014, false), (2015, false), (2016, false), (2017, false), (2018, false), (2019, false)])) (mV 0)])))) (mSeq (mSet 1 (mOp2 addD (mV 1) (mLst (mArgs [mOp1 (isiE (etab [(2000, false), (2001, false), (2002, false), (2003, false), (2004, false), (2005, false), (2006, false), (2007, false), (2008, false), (2009, false), (2010, false), (2011, false), (2012, false), (2013, false), (2014, true), (2015, false), (2016, false), (2017, false), (2018, false), (2019, false)])) (mV 0), mOp1 (isiE (etab [(2000, false), (2001, false), (2002, false), (2003, false), (2004, false), (2005, false), (2006, false), (2007, false), (2008, false), (2009, false), (2010, false), (2011, false), (2012, false), (2013, false), (2014, false), (2015, true), (2016, false), (2017, false), (2018, false), (2019, false)])) (mV 0), mOp1 (isiE (etab [(2000, false), (2001, false), (2002, false), (2003, false), (2004, false), (2005, false), (2006, false), (2007, false), (2008, false), (2009, false), (2010, false), (2011, false), (2012, false), (2013, false), (2014, false), (2015, false), (2016, true), (2017, false), (2018, false), (2019, false)])) (mV 0)])))) (mRt (mOp2 addD (mV 1) (mLst (mArgs [mOp1 (isiE (etab [(2000, false), (2001, false), (2002, false), (2003, false), (2004, false), (2005, false), (2006, false), (2007, false), (2008, false), (2009, false), (2010, false), (2011, false), (2012, false), (2013, false), (2014, false), (2015, false), (2016, false), (2017, true), (2018, false), (2019, false)])) (mV 0), mOp1 (isiE (etab [(2000, false), (2001, false), (2002, false), (2003, false), (2004, false), (2005, false), (2006, false), (2007, false), (2008, false), (2009, false), (2010, false), (2011, false), (2012, false), (2013, false), (2014, false), (2015, false), (2016, false), (2017, false), (2018, true), (2019, false)])) (mV 0), mOp1 (isiE (etab [(2000, false), (2001, false), (2002, false), (2003, false), (2004, false), (2005, false), (2006, false), (2007, false), (2008, false), (2009, false), (2010, false), (2011, false), (2012, false), (2013, false), (2014, false), (2015, false), (2016, false), (2017, false), (2018, false), (2019, true)])) (mV 0)])))))))))
def f__law_marks_2 {R : Type} (T : Fm R) : Fm R := fnM 2 (m__law_marks_2 T)
def m__law_alone {R : Type} (T : Fm R) : MS R := mSeq (mSet 2 (mLc [3] (mRng1 (mC (.int 19))) (.nm 3) (mC (.bl true)) (mOp2 eqD (mV 3) (mV 1)))) (mRt (mAnd (mOp2 eqD (mCall (f__law_marks_2 T) (mArgs [mV 0])) (mV 2)) (mAnd (mOp1 (isiE (etab [(2000, true), (2001, true), (2002, true), (2003, true), (2004, true), (2005, true), (2006, true), (2007, true), (2008, true), (2009, true), (2010, true), (2011, true), (2012, true), (2013, true), (2014, true), (2015, true), (2016, true), (2017, true), (2018, true), (2019, true)])) (mV 0)) (mOp1 (isiE (etab [(2000, true), (2001, true), (2002, true), (2003, true), (2004, true), (2005, true), (2006, true), (2007, true), (2008, true), (2009, true), (2010, true), (2011, true), (2012, true), (2013, true), (2014, true), (2015, true), (2016, true), (2017, true), (2018, true), (2019, true)])) (mV 0)))))
def f__law_alone {R : Type} (T : Fm R) : Fm R := fnM 4 (m__law_alone T)
def m__law_plain {R : Type} (T : Fm R) : MS R := mSeq (mSet 1 (mLst (mArgs [mTup (mArgs [mC (.int 3), mErrT 2004 (mV 0)]), mTup (mArgs [mC (.int 5), mErrT 2006 (mV 0)]), mTup (mArgs [mC (.int 6), mErrT 2007 (mV 0)]), mTup (mArgs [mC (.int 10), mErrT 2011 (mV 0)]), mTup (mArgs [mC (.int 13), mErrT 2014 (mV 0)])]))) (mRt (mOp2 addD (mV 1) (mLst (mArgs [mTup (mArgs [mC (.int 14), mErrT 2015 (mV 0)]), mTup (mArgs [mC (.int 16), mErrT 2017 (mV 0)]), mTup (mArgs [mC (.int 99), mErrT 2000 (mV 0)])]))))
def f__law_plain {R : Type} (T : Fm R) : Fm R := fnM 2 (m__law_plain T)
def m__law_with_fields {R : Type} (T : Fm R) : MS R := mSeq (mSet 1 (mLst (mArgs [mErrD 2001 "part" (mArgs [mV 0]), mErrD 2001 "part" (mArgs [mV 0]), mErrD 2005 "part" (mArgs [mV 0]), mErrD 2005 "part" (mArgs [mV 0])]))) (mSeq (mSet 2 (mLc [3, 4] (mIt enumI (mV 1)) (.tp [.nm 3, .nm 4]) (mC (.bl true)) (mTup (mArgs [mOp2 idxD (mLst (mArgs [mC (.int 0), mC (.int 4)])) (mOp2 (o2I iDiv) (mV 3) (mC (.int 2))), mV 4, mOp1 (errF (fun c => ([2001, 2005] : List Nat).contains c) "part") (mV 4)])))) (mSeq (mSet 2 (mOp2 addD (mV 2) (mLc [4] (mIt itemsOf (mLst (mArgs [mErrD 2002 "goal" (mArgs [mV 0]), mErrD 2002 "goal" (mArgs [mV 0])]))) (.nm 4) (mC (.bl true)) (mTup (mArgs [mC (.int 1), mV 4, mOp1 (errF (fun c => ([2002] : List Nat).contains c) "goal") (mV 4)]))))) (mSeq (mSet 1 (mLst (mArgs [mErrD 2003 "node" (mArgs [mV 0]), mErrD 2003 "node" (mArgs [mV 0]), mErrD 2013 "node" (mArgs [mV 0]), mErrD 2013 "node" (mArgs [mV 0])]))) (mSeq (mSet 2 (mOp2 addD (mV 2) (mLc [3, 4] (mIt enumI (mV 1)) (.tp [.nm 3, .nm 4]) (mC (.bl true)) (mTup (mArgs [mOp2 idxD (mLst (mArgs [mC (.int 2), mC (.int 12)])) (mOp2 (o2I iDiv) (mV 3) (mC (.int 2))), mV 4, mOp1 (errF (fun c => ([2003, 2013] : List Nat).contains c) "node") (mV 4)]))))) (mSeq (mSet 1 (mLst (mArgs [mErrD 2008 "at" (mArgs [mV 0]), mErrD 2008 "at" (mArgs [mV 0]), mErrD 2010 "at" (mArgs [mV 0]), mErrD 2010 "at" (mArgs [mV 0])]))) (mSeq (mSet 1 (mOp2 addD (mV 1) (mLst (mArgs [mErrD 2018 "at" (mArgs [mV 0]), mErrD 2018 "at" (mArgs [mV 0])])))) (mSeq (mSet 2 (mOp2 addD (mV 2) (mLc [3, 4] (mIt enumI (mV 1)) (.tp [.nm 3, .nm 4]) (mC (.bl true)) (mTup (mArgs [mOp2 idxD (mLst (mArgs [mC (.int 7), mC (.int 9), mC (.int 17)])) (mOp2 (o2I iDiv) (mV 3) (mC (.int 2))), mV 4, mOp1 (errF (fun c => ([2008, 2010, 2018] : List Nat).contains c) "at") (mV 4)]))))) (mSeq (mSet 2 (mOp2 addD (mV 2) (mLc [4] (mIt itemsOf (mLst (mArgs [mErrD 2009 "number" (mArgs [mV 0]), mErrD 2009 "number" (mArgs [mV 0])]))) (.nm 4) (mC (.bl true)) (mTup (mArgs [mC (.int 8), mV 4, mOp1 (errF (fun c => ([2009] : List Nat).contains c) "number") (mV 4)]))))) (mSeq (mSet 2 (mOp2 addD (mV 2) (mLc [4] (mIt itemsOf (mLst (mArgs [mErrD 2012 "wish" (mArgs [mV 0]), mErrD 2012 "wish" (mArgs [mV 0])]))) (.nm 4) (mC (.bl true)) (mTup (mArgs [mC (.int 11), mV 4, mOp1 (errF (fun c => ([2012] : List Nat).contains c) "wish") (mV 4)]))))) (mSeq (mSet 2 (mOp2 addD (mV 2) (mLc [4] (mIt itemsOf (mLst (mArgs [mErrD 2016 "packet" (mArgs [mV 0]), mErrD 2016 "packet" (mArgs [mV 0])]))) (.nm 4) (mC (.bl true)) (mTup (mArgs [mC (.int 15), mV 4, mOp1 (errF (fun c => ([2016] : List Nat).contains c) "packet") (mV 4)]))))) (mRt (mOp2 addD (mV 2) (mLc [4] (mIt itemsOf (mLst (mArgs [mErrD 2019 "line" (mArgs [mV 0]), mErrD 2019 "line" (mArgs [mV 0])]))) (.nm 4) (mC (.bl true)) (mTup (mArgs [mC (.int 18), mV 4, mOp1 (errF (fun c => ([2019] : List Nat).contains c) "line") (mV 4)])))))))))))))))
def f__law_with_fields {R : Type} (T : Fm R) : Fm R := fnM 5 (m__law_with_fields T)
end RW
namespace RW
open PySem L2
def m_law_k01 (T : Fm Dr) : MS Dr := mSeq (mFor (mRng1 (mOp2 addD (mC (.int 1)) (mOp2 min2 (mOp1 lenD (mV 0)) (mC (.int 3))))) (.nm 2) (mSeq (mSet 3 (mCall (f__law_pick T) (mArgs [mV 1, mLst (mArgs [mC (.str ""), mC (.str "a"), mC (.str "no node"), mC (.str "round")])]))) (mSeq (mSet 4 (mCall (f__law_pick T) (mArgs [mV 1, mLst (mArgs [mC (.int 0), mC (.int 1), mC .non, mC (.str "tables"), mC (.str "a"), mTup (mArgs [mC (.int 1), mC .non]), mTup (mArgs [mTup (mArgs [mC (.int 0), mC (.bl true)])]), mLst (mArgs [mC (.int 3)]), mOp2 (o2I iPow) (mC (.int 10)) (mC (.int 12))])]))) (mSeq (mFor (mIt itemsOf (mCall (f__law_plain T) (mArgs [mV 3]))) (.tp [.nm 5, .nm 6]) (mIte (mOr (mOp2 neD (mOp1 (strEt [2000, 2004, 2006, 2007, 2011, 2014, 2015, 2017]) (mV 6)) (mV 3)) (mAnd (mOp2 ltD (mV 5) (mC (.int 19))) (mNot (mCall (f__law_alone T) (mArgs [mV 6, mV 5]))))) (mRt (mC (.bl false))) (mNx))) (mSeq (mFor (mIt itemsOf (mCall (f__law_with_fields T) (mArgs [mV 4]))) (.tp [.nm 5, .nm 6, .nm 7]) (mIte (mOr (mNot (mCall (f__law_alone T) (mArgs [mV 6, mV 5]))) (mOp2 neD (mOp1 reprD (mV 7)) (mOp1 reprD (mV 4)))) (mRt (mC (.bl false))) (mNx))) (mSeq (mSet 8 (mErrT 2000 (mV 3))) (mIte (mOr (mOp2 neD (mCall (f__law_marks_2 T) (mArgs [mV 8])) (mOp2 mulD (mLst (mArgs [mC (.bl false)])) (mC (.int 19)))) (mNot (mOp1 (isiE (etab [(2000, true), (2001, true), (2002, true), (2003, true), (2004, true), (2005, true), (2006, true), (2007, true), (2008, true), (2009, true), (2010, true), (2011, true), (2012, true), (2013, true), (2014, true), (2015, true), (2016, true), (2017, true), (2018, true), (2019, true)])) (mV 8)))) (mRt (mC (.bl false))) (mNx)))))))) (mRt (mC (.bl true)))
end RW
set_option maxHeartbeats 0
namespace RW
open PySem L2
section
variable {g : G} {P : Program} {w : World} {mg : Str → Option Value} {base h : Heap}
theorem G_WayError (kin : g.K.In h) (gn : h.Ns mainGlobals mg) (c : He.SaysD fa fn g.K) : mg "WayError" = some (.ref (He.ga g.K "WayError")) := He.glo_ok kin gn (c.fact 0 (f := .glo "WayError") rfl)
theorem G_BadNet (kin : g.K.In h) (gn : h.Ns mainGlobals mg) (c : He.SaysD fa fn g.K) : mg "BadNet" = some (.ref (He.ga g.K "BadNet")) := He.glo_ok kin gn (c.fact 1 (f := .glo "BadNet") rfl)
theorem G_NoGoal (kin : g.K.In h) (gn : h.Ns mainGlobals mg) (c : He.SaysD fa fn g.K) : mg "NoGoal" = some (.ref (He.ga g.K "NoGoal")) := He.glo_ok kin gn (c.fact 2 (f := .glo "NoGoal") rfl)
theorem G_NoNode (kin : g.K.In h) (gn : h.Ns mainGlobals mg) (c : He.SaysD fa fn g.K) : mg "NoNode" = some (.ref (He.ga g.K "NoNode")) := He.glo_ok kin gn (c.fact 3 (f := .glo "NoNode") rfl)
theorem G_BadPlace (kin : g.K.In h) (gn : h.Ns mainGlobals mg) (c : He.SaysD fa fn g.K) : mg "BadPlace" = some (.ref (He.ga g.K "BadPlace")) := He.glo_ok kin gn (c.fact 4 (f := .glo "BadPlace") rfl)
theorem G_BadLot (kin : g.K.In h) (gn : h.Ns mainGlobals mg) (c : He.SaysD fa fn g.K) : mg "BadLot" = some (.ref (He.ga g.K "BadLot")) := He.glo_ok kin gn (c.fact 5 (f := .glo "BadLot") rfl)
theorem G_BadWish (kin : g.K.In h) (gn : h.Ns mainGlobals mg) (c : He.SaysD fa fn g.K) : mg "BadWish" = some (.ref (He.ga g.K "BadWish")) := He.glo_ok kin gn (c.fact 6 (f := .glo "BadWish") rfl)
theorem G_BadWishes (kin : g.K.In h) (gn : h.Ns mainGlobals mg) (c : He.SaysD fa fn g.K) : mg "BadWishes" = some (.ref (He.ga g.K "BadWishes")) := He.glo_ok kin gn (c.fact 7 (f := .glo "BadWishes") rfl)
theorem G_BadPlan (kin : g.K.In h) (gn : h.Ns mainGlobals mg) (c : He.SaysD fa fn g.K) : mg "BadPlan" = some (.ref (He.ga g.K "BadPlan")) := He.glo_ok kin gn (c.fact 8 (f := .glo "BadPlan") rfl)
theorem G_BadNumber (kin : g.K.In h) (gn : h.Ns mainGlobals mg) (c : He.SaysD fa fn g.K) : mg "BadNumber" = some (.ref (He.ga g.K "BadNumber")) := He.glo_ok kin gn (c.fact 9 (f := .glo "BadNumber") rfl)
theorem G_BadSights (kin : g.K.In h) (gn : h.Ns mainGlobals mg) (c : He.SaysD fa fn g.K) : mg "BadSights" = some (.ref (He.ga g.K "BadSights")) := He.glo_ok kin gn (c.fact 10 (f := .glo "BadSights") rfl)
theorem G_RoundOpen (kin : g.K.In h) (gn : h.Ns mainGlobals mg) (c : He.SaysD fa fn g.K) : mg "RoundOpen" = some (.ref (He.ga g.K "RoundOpen")) := He.glo_ok kin gn (c.fact 11 (f := .glo "RoundOpen") rfl)
theorem G_Unsafe (kin : g.K.In h) (gn : h.Ns mainGlobals mg) (c : He.SaysD fa fn g.K) : mg "Unsafe" = some (.ref (He.ga g.K "Unsafe")) := He.glo_ok kin gn (c.fact 12 (f := .glo "Unsafe") rfl)
theorem G_NotSo (kin : g.K.In h) (gn : h.Ns mainGlobals mg) (c : He.SaysD fa fn g.K) : mg "NotSo" = some (.ref (He.ga g.K "NotSo")) := He.glo_ok kin gn (c.fact 13 (f := .glo "NotSo") rfl)
theorem G_NoRound (kin : g.K.In h) (gn : h.Ns mainGlobals mg) (c : He.SaysD fa fn g.K) : mg "NoRound" = some (.ref (He.ga g.K "NoRound")) := He.glo_ok kin gn (c.fact 14 (f := .glo "NoRound") rfl)
theorem G_HalfDone (kin : g.K.In h) (gn : h.Ns mainGlobals mg) (c : He.SaysD fa fn g.K) : mg "HalfDone" = some (.ref (He.ga g.K "HalfDone")) := He.glo_ok kin gn (c.fact 15 (f := .glo "HalfDone") rfl)
theorem G_NoPacket (kin : g.K.In h) (gn : h.Ns mainGlobals mg) (c : He.SaysD fa fn g.K) : mg "NoPacket" = some (.ref (He.ga g.K "NoPacket")) := He.glo_ok kin gn (c.fact 16 (f := .glo "NoPacket") rfl)
theorem G_NothingDone (kin : g.K.In h) (gn : h.Ns mainGlobals mg) (c : He.SaysD fa fn g.K) : mg "NothingDone" = some (.ref (He.ga g.K "NothingDone")) := He.glo_ok kin gn (c.fact 17 (f := .glo "NothingDone") rfl)
theorem G_BadJournal (kin : g.K.In h) (gn : h.Ns mainGlobals mg) (c : He.SaysD fa fn g.K) : mg "BadJournal" = some (.ref (He.ga g.K "BadJournal")) := He.glo_ok kin gn (c.fact 18 (f := .glo "BadJournal") rfl)
theorem G_BadText (kin : g.K.In h) (gn : h.Ns mainGlobals mg) (c : He.SaysD fa fn g.K) : mg "BadText" = some (.ref (He.ga g.K "BadText")) := He.glo_ok kin gn (c.fact 19 (f := .glo "BadText") rfl)
theorem G__law_begin (kin : g.K.In h) (gn : h.Ns mainGlobals mg) (c : He.SaysD fa fn g.K) : mg "_law_begin" = some (.ref (He.ga g.K "_law_begin")) := He.glo_ok kin gn (c.fact 20 (f := .glo "_law_begin") rfl)
theorem G__law_blend (kin : g.K.In h) (gn : h.Ns mainGlobals mg) (c : He.SaysD fa fn g.K) : mg "_law_blend" = some (.ref (He.ga g.K "_law_blend")) := He.glo_ok kin gn (c.fact 21 (f := .glo "_law_blend") rfl)
theorem G__law_pick (kin : g.K.In h) (gn : h.Ns mainGlobals mg) (c : He.SaysD fa fn g.K) : mg "_law_pick" = some (.ref (He.ga g.K "_law_pick")) := He.glo_ok kin gn (c.fact 22 (f := .glo "_law_pick") rfl)
theorem G__law_take (kin : g.K.In h) (gn : h.Ns mainGlobals mg) (c : He.SaysD fa fn g.K) : mg "_law_take" = some (.ref (He.ga g.K "_law_take")) := He.glo_ok kin gn (c.fact 23 (f := .glo "_law_take") rfl)
theorem G__law_marks (kin : g.K.In h) (gn : h.Ns mainGlobals mg) (c : He.SaysD fa fn g.K) : mg "_law_marks" = some (.ref (He.ga g.K "_law_marks")) := He.glo_ok kin gn (c.fact 24 (f := .glo "_law_marks") rfl)
theorem G__law_alone (kin : g.K.In h) (gn : h.Ns mainGlobals mg) (c : He.SaysD fa fn g.K) : mg "_law_alone" = some (.ref (He.ga g.K "_law_alone")) := He.glo_ok kin gn (c.fact 25 (f := .glo "_law_alone") rfl)
theorem G__law_plain (kin : g.K.In h) (gn : h.Ns mainGlobals mg) (c : He.SaysD fa fn g.K) : mg "_law_plain" = some (.ref (He.ga g.K "_law_plain")) := He.glo_ok kin gn (c.fact 26 (f := .glo "_law_plain") rfl)
theorem G__law_with_fields (kin : g.K.In h) (gn : h.Ns mainGlobals mg) (c : He.SaysD fa fn g.K) : mg "_law_with_fields" = some (.ref (He.ga g.K "_law_with_fields")) := He.glo_ok kin gn (c.fact 27 (f := .glo "_law_with_fields") rfl)
theorem G_law (kin : g.K.In h) (gn : h.Ns mainGlobals mg) (c : He.SaysD fa fn g.K) : mg "law" = some (.ref (He.ga g.K "law")) := He.glo_ok kin gn (c.fact 28 (f := .glo "law") rfl)
theorem Z_ValueError (kin : g.K.In h) (gn : h.Ns mainGlobals mg) (c : He.SaysD fa fn g.K) : mg "ValueError" = none := He.free_ok kin gn (c.fact 29 (f := .free "ValueError") rfl)
theorem Z_super (kin : g.K.In h) (gn : h.Ns mainGlobals mg) (c : He.SaysD fa fn g.K) : mg "super" = none := He.free_ok kin gn (c.fact 30 (f := .free "super") rfl)
theorem Z_len (kin : g.K.In h) (gn : h.Ns mainGlobals mg) (c : He.SaysD fa fn g.K) : mg "len" = none := He.free_ok kin gn (c.fact 31 (f := .free "len") rfl)
theorem Z_isinstance (kin : g.K.In h) (gn : h.Ns mainGlobals mg) (c : He.SaysD fa fn g.K) : mg "isinstance" = none := He.free_ok kin gn (c.fact 32 (f := .free "isinstance") rfl)
theorem Z_range (kin : g.K.In h) (gn : h.Ns mainGlobals mg) (c : He.SaysD fa fn g.K) : mg "range" = none := He.free_ok kin gn (c.fact 37 (f := .free "range") rfl)
theorem Z_int (kin : g.K.In h) (gn : h.Ns mainGlobals mg) (c : He.SaysD fa fn g.K) : mg "int" = none := He.free_ok kin gn (c.fact 40 (f := .free "int") rfl)
theorem Z_repr (kin : g.K.In h) (gn : h.Ns mainGlobals mg) (c : He.SaysD fa fn g.K) : mg "repr" = none := He.free_ok kin gn (c.fact 41 (f := .free "repr") rfl)
theorem Z_min (kin : g.K.In h) (gn : h.Ns mainGlobals mg) (c : He.SaysD fa fn g.K) : mg "min" = none := He.free_ok kin gn (c.fact 42 (f := .free "min") rfl)
theorem Z_abs (kin : g.K.In h) (gn : h.Ns mainGlobals mg) (c : He.SaysD fa fn g.K) : mg "abs" = none := He.free_ok kin gn (c.fact 44 (f := .free "abs") rfl)
theorem Z_enumerate (kin : g.K.In h) (gn : h.Ns mainGlobals mg) (c : He.SaysD fa fn g.K) : mg "enumerate" = none := He.free_ok kin gn (c.fact 45 (f := .free "enumerate") rfl)
theorem Z_str (kin : g.K.In h) (gn : h.Ns mainGlobals mg) (c : He.SaysD fa fn g.K) : mg "str" = none := He.free_ok kin gn (c.fact 48 (f := .free "str") rfl)
variable (kin : g.K.In h) (gn : h.Ns mainGlobals mg) (c : He.SaysD fa fn g.K) (hcl : g.cls = clsOf g.K) (sy : SyW g w base) {T : Fm g.R.S}
variable (isc : exB g.K = true) (gt : GetsD gts g.K) (pp : PrOk P "/claim/cut.py")
include kin gn c hcl sy isc gt pp
omit sy isc gt pp in
theorem GE_WayError : mg "WayError" = some (.ref (g.cls 2000)) := by rw [hcl]; exact G_WayError kin gn c
omit sy isc gt pp in
theorem GE_BadNet : mg "BadNet" = some (.ref (g.cls 2001)) := by rw [hcl]; exact G_BadNet kin gn c
omit sy isc gt pp in
theorem GE_NoGoal : mg "NoGoal" = some (.ref (g.cls 2002)) := by rw [hcl]; exact G_NoGoal kin gn c
omit sy isc gt pp in
theorem GE_NoNode : mg "NoNode" = some (.ref (g.cls 2003)) := by rw [hcl]; exact G_NoNode kin gn c
omit sy isc gt pp in
theorem GE_BadPlace : mg "BadPlace" = some (.ref (g.cls 2004)) := by rw [hcl]; exact G_BadPlace kin gn c
omit sy isc gt pp in
theorem GE_BadLot : mg "BadLot" = some (.ref (g.cls 2005)) := by rw [hcl]; exact G_BadLot kin gn c
omit sy isc gt pp in
theorem GE_BadWish : mg "BadWish" = some (.ref (g.cls 2006)) := by rw [hcl]; exact G_BadWish kin gn c
omit sy isc gt pp in
theorem GE_BadWishes : mg "BadWishes" = some (.ref (g.cls 2007)) := by rw [hcl]; exact G_BadWishes kin gn c
omit sy isc gt pp in
theorem GE_BadPlan : mg "BadPlan" = some (.ref (g.cls 2008)) := by rw [hcl]; exact G_BadPlan kin gn c
omit sy isc gt pp in
theorem GE_BadNumber : mg "BadNumber" = some (.ref (g.cls 2009)) := by rw [hcl]; exact G_BadNumber kin gn c
omit sy isc gt pp in
theorem GE_BadSights : mg "BadSights" = some (.ref (g.cls 2010)) := by rw [hcl]; exact G_BadSights kin gn c
omit sy isc gt pp in
theorem GE_RoundOpen : mg "RoundOpen" = some (.ref (g.cls 2011)) := by rw [hcl]; exact G_RoundOpen kin gn c
omit sy isc gt pp in
theorem GE_Unsafe : mg "Unsafe" = some (.ref (g.cls 2012)) := by rw [hcl]; exact G_Unsafe kin gn c
omit sy isc gt pp in
theorem GE_NotSo : mg "NotSo" = some (.ref (g.cls 2013)) := by rw [hcl]; exact G_NotSo kin gn c
omit sy isc gt pp in
theorem GE_NoRound : mg "NoRound" = some (.ref (g.cls 2014)) := by rw [hcl]; exact G_NoRound kin gn c
omit sy isc gt pp in
theorem GE_HalfDone : mg "HalfDone" = some (.ref (g.cls 2015)) := by rw [hcl]; exact G_HalfDone kin gn c
omit sy isc gt pp in
theorem GE_NoPacket : mg "NoPacket" = some (.ref (g.cls 2016)) := by rw [hcl]; exact G_NoPacket kin gn c
omit sy isc gt pp in
theorem GE_NothingDone : mg "NothingDone" = some (.ref (g.cls 2017)) := by rw [hcl]; exact G_NothingDone kin gn c
omit sy isc gt pp in
theorem GE_BadJournal : mg "BadJournal" = some (.ref (g.cls 2018)) := by rw [hcl]; exact G_BadJournal kin gn c
omit sy isc gt pp in
theorem GE_BadText : mg "BadText" = some (.ref (g.cls 2019)) := by rw [hcl]; exact G_BadText kin gn c
omit kin gn c sy gt pp in
theorem IT_BadJournal : IsTab g (.ref (g.cls 2018)) (etab [(2000, false), (2001, false), (2002, false), (2003, false), (2004, false), (2005, false), (2006, false), (2007, false), (2008, false), (2009, false), (2010, false), (2011, false), (2012, false), (2013, false), (2014, false), (2015, false), (2016, false), (2017, false), (2018, true), (2019, false)]) := isTab_of (by rw [hcl]; exact (by have := isc; unfold exB at this; simp only [Bool.and_eq_true] at this; exact this.1.1.1.1.1.1.1.1.1.1.1.1.1.1.1.1.1.1.1.1.1.1.1.1.1.1.1.1.1.1.1.1.1.1.1.1.1.1.1.1.1.1.1.1.1.1.1.1.1.1.1.1.1.1.1.1.1.1)) (by rw [hcl]; exact (by have := isc; unfold exB at this; simp only [Bool.and_eq_true] at this; exact this.1.1.1.1.1.1.1.1.1.1.1.1.1.1.1.1.1.1.1.1.1.1.1.1.1.1.1.1.1.1.1.1.1.1.1.1.1.1.1.1.1.1.1.1.1.1.1.1.1.1.1.1.1.1.1.1.1.2))
omit kin gn c sy gt pp in
theorem IT_BadLot : IsTab g (.ref (g.cls 2005)) (etab [(2000, false), (2001, false), (2002, false), (2003, false), (2004, false), (2005, true), (2006, false), (2007, false), (2008, false), (2009, false), (2010, false), (2011, false), (2012, false), (2013, false), (2014, false), (2015, false), (2016, false), (2017, false), (2018, false), (2019, false)]) := isTab_of (by rw [hcl]; exact (by have := isc; unfold exB at this; simp only [Bool.and_eq_true] at this; exact this.1.1.1.1.1.1.1.1.1.1.1.1.1.1.1.1.1.1.1.1.1.1.1.1.1.1.1.1.1.1.1.1.1.1.1.1.1.1.1.1.1.1.1.1.1.1.1.1.1.1.1.1.1.1.1.1.1.1)) (by rw [hcl]; exact (by have := isc; unfold exB at this; simp only [Bool.and_eq_true] at this; exact this.1.1.1.1.1.1.1.1.1.1.1.1.1.1.1.1.1.1.1.1.1.1.1.1.1.1.1.1.1.1.1.1.1.1.1.1.1.1.1.1.1.1.1.1.1.1.1.1.1.1.1.1.1.1.1.1.2))
omit kin gn c sy gt pp in
theorem IT_BadNet : IsTab g (.ref (g.cls 2001)) (etab [(2000, false), (2001, true), (2002, false), (2003, false), (2004, false), (2005, false), (2006, false), (2007, false), (2008, false), (2009, false), (2010, false), (2011, false), (2012, false), (2013, false), (2014, false), (2015, false), (2016, false), (2017, false), (2018, false), (2019, false)]) := isTab_of (by rw [hcl]; exact (by have := isc; unfold exB at this; simp only [Bool.and_eq_true] at this; exact this.1.1.1.1.1.1.1.1.1.1.1.1.1.1.1.1.1.1.1.1.1.1.1.1.1.1.1.1.1.1.1.1.1.1.1.1.1.1.1.1.1.1.1.1.1.1.1.1.1.1.1.1.1.1.1.1.1.1)) (by rw [hcl]; exact (by have := isc; unfold exB at this; simp only [Bool.and_eq_true] at this; exact this.1.1.1.1.1.1.1.1.1.1.1.1.1.1.1.1.1.1.1.1.1.1.1.1.1.1.1.1.1.1.1.1.1.1.1.1.1.1.1.1.1.1.1.1.1.1.1.1.1.1.1.1.1.1.1.2))
omit kin gn c sy gt pp in
theorem IT_BadNumber : IsTab g (.ref (g.cls 2009)) (etab [(2000, false), (2001, false), (2002, false), (2003, false), (2004, false), (2005, false), (2006, false), (2007, false), (2008, false), (2009, true), (2010, false), (2011, false), (2012, false), (2013, false), (2014, false), (2015, false), (2016, false), (2017, false), (2018, false), (2019, false)]) := isTab_of (by rw [hcl]; exact (by have := isc; unfold exB at this; simp only [Bool.and_eq_true] at this; exact this.1.1.1.1.1.1.1.1.1.1.1.1.1.1.1.1.1.1.1.1.1.1.1.1.1.1.1.1.1.1.1.1.1.1.1.1.1.1.1.1.1.1.1.1.1.1.1.1.1.1.1.1.1.1.1.1.1.1)) (by rw [hcl]; exact (by have := isc; unfold exB at this; simp only [Bool.and_eq_true] at this; exact this.1.1.1.1.1.1.1.1.1.1.1.1.1.1.1.1.1.1.1.1.1.1.1.1.1.1.1.1.1.1.1.1.1.1.1.1.1.1.1.1.1.1.1.1.1.1.1.1.1.1.1.1.1.1.2))
omit kin gn c sy gt pp in
theorem IT_BadPlace : IsTab g (.ref (g.cls 2004)) (etab [(2000, false), (2001, false), (2002, false), (2003, false), (2004, true), (2005, false), (2006, false), (2007, false), (2008, false), (2009, false), (2010, false), (2011, false), (2012, false), (2013, false), (2014, false), (2015, false), (2016, false), (2017, false), (2018, false), (2019, false)]) := isTab_of (by rw [hcl]; exact (by have := isc; unfold exB at this; simp only [Bool.and_eq_true] at this; exact this.1.1.1.1.1.1.1.1.1.1.1.1.1.1.1.1.1.1.1.1.1.1.1.1.1.1.1.1.1.1.1.1.1.1.1.1.1.1.1.1.1.1.1.1.1.1.1.1.1.1.1.1.1.1.1.1.1.1)) (by rw [hcl]; exact (by have := isc; unfold exB at this; simp only [Bool.and_eq_true] at this; exact this.1.1.1.1.1.1.1.1.1.1.1.1.1.1.1.1.1.1.1.1.1.1.1.1.1.1.1.1.1.1.1.1.1.1.1.1.1.1.1.1.1.1.1.1.1.1.1.1.1.1.1.1.1.2))
omit kin gn c sy gt pp in
theorem IT_BadPlan : IsTab g (.ref (g.cls 2008)) (etab [(2000, false), (2001, false), (2002, false), (2003, false), (2004, false), (2005, false), (2006, false), (2007, false), (2008, true), (2009, false), (2010, false), (2011, false), (2012, false), (2013, false), (2014, false), (2015, false), (2016, false), (2017, false), (2018, false), (2019, false)]) := isTab_of (by rw [hcl]; exact (by have := isc; unfold exB at this; simp only [Bool.and_eq_true] at this; exact this.1.1.1.1.1.1.1.1.1.1.1.1.1.1.1.1.1.1.1.1.1.1.1.1.1.1.1.1.1.1.1.1.1.1.1.1.1.1.1.1.1.1.1.1.1.1.1.1.1.1.1.1.1.1.1.1.1.1)) (by rw [hcl]; exact (by have := isc; unfold exB at this; simp only [Bool.and_eq_true] at this; exact this.1.1.1.1.1.1.1.1.1.1.1.1.1.1.1.1.1.1.1.1.1.1.1.1.1.1.1.1.1.1.1.1.1.1.1.1.1.1.1.1.1.1.1.1.1.1.1.1.1.1.1.1.2))
omit kin gn c sy gt pp in
theorem IT_BadSights : IsTab g (.ref (g.cls 2010)) (etab [(2000, false), (2001, false), (2002, false), (2003, false), (2004, false), (2005, false), (2006, false), (2007, false), (2008, false), (2009, false), (2010, true), (2011, false), (2012, false), (2013, false), (2014, false), (2015, false), (2016, false), (2017, false), (2018, false), (2019, false)]) := isTab_of (by rw [hcl]; exact (by have := isc; unfold exB at this; simp only [Bool.and_eq_true] at this; exact this.1.1.1.1.1.1.1.1.1.1.1.1.1.1.1.1.1.1.1.1.1.1.1.1.1.1.1.1.1.1.1.1.1.1.1.1.1.1.1.1.1.1.1.1.1.1.1.1.1.1.1.1.1.1.1.1.1.1)) (by rw [hcl]; exact (by have := isc; unfold exB at this; simp only [Bool.and_eq_true] at this; exact this.1.1.1.1.1.1.1.1.1.1.1.1.1.1.1.1.1.1.1.1.1.1.1.1.1.1.1.1.1.1.1.1.1.1.1.1.1.1.1.1.1.1.1.1.1.1.1.1.1.1.1.2))
omit kin gn c sy gt pp in
theorem IT_BadText : IsTab g (.ref (g.cls 2019)) (etab [(2000, false), (2001, false), (2002, false), (2003, false), (2004, false), (2005, false), (2006, false), (2007, false), (2008, false), (2009, false), (2010, false), (2011, false), (2012, false), (2013, false), (2014, false), (2015, false), (2016, false), (2017, false), (2018, false), (2019, true)]) := isTab_of (by rw [hcl]; exact (by have := isc; unfold exB at this; simp only [Bool.and_eq_true] at this; exact this.1.1.1.1.1.1.1.1.1.1.1.1.1.1.1.1.1.1.1.1.1.1.1.1.1.1.1.1.1.1.1.1.1.1.1.1.1.1.1.1.1.1.1.1.1.1.1.1.1.1.1.1.1.1.1.1.1.1)) (by rw [hcl]; exact (by have := isc; unfold exB at this; simp only [Bool.and_eq_true] at this; exact this.1.1.1.1.1.1.1.1.1.1.1.1.1.1.1.1.1.1.1.1.1.1.1.1.1.1.1.1.1.1.1.1.1.1.1.1.1.1.1.1.1.1.1.1.1.1.1.1.1.1.2))
omit kin gn c sy gt pp in
theorem IT_BadWish : IsTab g (.ref (g.cls 2006)) (etab [(2000, false), (2001, false), (2002, false), (2003, false), (2004, false), (2005, false), (2006, true), (2007, false), (2008, false), (2009, false), (2010, false), (2011, false), (2012, false), (2013, false), (2014, false), (2015, false), (2016, false), (2017, false), (2018, false), (2019, false)]) := isTab_of (by rw [hcl]; exact (by have := isc; unfold exB at this; simp only [Bool.and_eq_true] at this; exact this.1.1.1.1.1.1.1.1.1.1.1.1.1.1.1.1.1.1.1.1.1.1.1.1.1.1.1.1.1.1.1.1.1.1.1.1.1.1.1.1.1.1.1.1.1.1.1.1.1.1.1.1.1.1.1.1.1.1)) (by rw [hcl]; exact (by have := isc; unfold exB at this; simp only [Bool.and_eq_true] at this; exact this.1.1.1.1.1.1.1.1.1.1.1.1.1.1.1.1.1.1.1.1.1.1.1.1.1.1.1.1.1.1.1.1.1.1.1.1.1.1.1.1.1.1.1.1.1.1.1.1.1.2))
omit kin gn c sy gt pp in
theorem IT_BadWishes : IsTab g (.ref (g.cls 2007)) (etab [(2000, false), (2001, false), (2002, false), (2003, false), (2004, false), (2005, false), (2006, false), (2007, true), (2008, false), (2009, false), (2010, false), (2011, false), (2012, false), (2013, false), (2014, false), (2015, false), (2016, false), (2017, false), (2018, false), (2019, false)]) := isTab_of (by rw [hcl]; exact (by have := isc; unfold exB at this; simp only [Bool.and_eq_true] at this; exact this.1.1.1.1.1.1.1.1.1.1.1.1.1.1.1.1.1.1.1.1.1.1.1.1.1.1.1.1.1.1.1.1.1.1.1.1.1.1.1.1.1.1.1.1.1.1.1.1.1.1.1.1.1.1.1.1.1.1)) (by rw [hcl]; exact (by have := isc; unfold exB at this; simp only [Bool.and_eq_true] at this; exact this.1.1.1.1.1.1.1.1.1.1.1.1.1.1.1.1.1.1.1.1.1.1.1.1.1.1.1.1.1.1.1.1.1.1.1.1.1.1.1.1.1.1.1.1.1.1.1.1.2))
omit kin gn c sy gt pp in
theorem IT_HalfDone : IsTab g (.ref (g.cls 2015)) (etab [(2000, false), (2001, false), (2002, false), (2003, false), (2004, false), (2005, false), (2006, false), (2007, false), (2008, false), (2009, false), (2010, false), (2011, false), (2012, false), (2013, false), (2014, false), (2015, true), (2016, false), (2017, false), (2018, false), (2019, false)]) := isTab_of (by rw [hcl]; exact (by have := isc; unfold exB at this; simp only [Bool.and_eq_true] at this; exact this.1.1.1.1.1.1.1.1.1.1.1.1.1.1.1.1.1.1.1.1.1.1.1.1.1.1.1.1.1.1.1.1.1.1.1.1.1.1.1.1.1.1.1.1.1.1.1.1.1.1.1.1.1.1.1.1.1.1)) (by rw [hcl]; exact (by have := isc; unfold exB at this; simp only [Bool.and_eq_true] at this; exact this.1.1.1.1.1.1.1.1.1.1.1.1.1.1.1.1.1.1.1.1.1.1.1.1.1.1.1.1.1.1.1.1.1.1.1.1.1.1.1.1.1.1.1.1.1.1.1.2))
omit kin gn c sy gt pp in
theorem IT_NoGoal : IsTab g (.ref (g.cls 2002)) (etab [(2000, false), (2001, false), (2002, true), (2003, false), (2004, false), (2005, false), (2006, false), (2007, false), (2008, false), (2009, false), (2010, false), (2011, false), (2012, false), (2013, false), (2014, false), (2015, false), (2016, false), (2017, false), (2018, false), (2019, false)]) := isTab_of (by rw [hcl]; exact (by have := isc; unfold exB at this; simp only [Bool.and_eq_true] at this; exact this.1.1.1.1.1.1.1.1.1.1.1.1.1.1.1.1.1.1.1.1.1.1.1.1.1.1.1.1.1.1.1.1.1.1.1.1.1.1.1.1.1.1.1.1.1.1.1.1.1.1.1.1.1.1.1.1.1.1)) (by rw [hcl]; exact (by have := isc; unfold exB at this; simp only [Bool.and_eq_true] at this; exact this.1.1.1.1.1.1.1.1.1.1.1.1.1.1.1.1.1.1.1.1.1.1.1.1.1.1.1.1.1.1.1.1.1.1.1.1.1.1.1.1.1.1.1.1.1.1.2))
omit kin gn c sy gt pp in
theorem IT_NoNode : IsTab g (.ref (g.cls 2003)) (etab [(2000, false), (2001, false), (2002, false), (2003, true), (2004, false), (2005, false), (2006, false), (2007, false), (2008, false), (2009, false), (2010, false), (2011, false), (2012, false), (2013, false), (2014, false), (2015, false), (2016, false), (2017, false), (2018, false), (2019, false)]) := isTab_of (by rw [hcl]; exact (by have := isc; unfold exB at this; simp only [Bool.and_eq_true] at this; exact this.1.1.1.1.1.1.1.1.1.1.1.1.1.1.1.1.1.1.1.1.1.1.1.1.1.1.1.1.1.1.1.1.1.1.1.1.1.1.1.1.1.1.1.1.1.1.1.1.1.1.1.1.1.1.1.1.1.1)) (by rw [hcl]; exact (by have := isc; unfold exB at this; simp only [Bool.and_eq_true] at this; exact this.1.1.1.1.1.1.1.1.1.1.1.1.1.1.1.1.1.1.1.1.1.1.1.1.1.1.1.1.1.1.1.1.1.1.1.1.1.1.1.1.1.1.1.1.1.2))
omit kin gn c sy gt pp in
theorem IT_NoPacket : IsTab g (.ref (g.cls 2016)) (etab [(2000, false), (2001, false), (2002, false), (2003, false), (2004, false), (2005, false), (2006, false), (2007, false), (2008, false), (2009, false), (2010, false), (2011, false), (2012, false), (2013, false), (2014, false), (2015, false), (2016, true), (2017, false), (2018, false), (2019, false)]) := isTab_of (by rw [hcl]; exact (by have := isc; unfold exB at this; simp only [Bool.and_eq_true] at this; exact this.1.1.1.1.1.1.1.1.1.1.1.1.1.1.1.1.1.1.1.1.1.1.1.1.1.1.1.1.1.1.1.1.1.1.1.1.1.1.1.1.1.1.1.1.1.1.1.1.1.1.1.1.1.1.1.1.1.1)) (by rw [hcl]; exact (by have := isc; unfold exB at this; simp only [Bool.and_eq_true] at this; exact this.1.1.1.1.1.1.1.1.1.1.1.1.1.1.1.1.1.1.1.1.1.1.1.1.1.1.1.1.1.1.1.1.1.1.1.1.1.1.1.1.1.1.1.1.2))
omit kin gn c sy gt pp in
theorem IT_NoRound : IsTab g (.ref (g.cls 2014)) (etab [(2000, false), (2001, false), (2002, false), (2003, false), (2004, false), (2005, false), (2006, false), (2007, false), (2008, false), (2009, false), (2010, false), (2011, false), (2012, false), (2013, false), (2014, true), (2015, false), (2016, false), (2017, false), (2018, false), (2019, false)]) := isTab_of (by rw [hcl]; exact (by have := isc; unfold exB at this; simp only [Bool.and_eq_true] at this; exact this.1.1.1.1.1.1.1.1.1.1.1.1.1.1.1.1.1.1.1.1.1.1.1.1.1.1.1.1.1.1.1.1.1.1.1.1.1.1.1.1.1.1.1.1.1.1.1.1.1.1.1.1.1.1.1.1.1.1)) (by rw [hcl]; exact (by have := isc; unfold exB at this; simp only [Bool.and_eq_true] at this; exact this.1.1.1.1.1.1.1.1.1.1.1.1.1.1.1.1.1.1.1.1.1.1.1.1.1.1.1.1.1.1.1.1.1.1.1.1.1.1.1.1.1.1.1.2))
omit kin gn c sy gt pp in
theorem IT_NotSo : IsTab g (.ref (g.cls 2013)) (etab [(2000, false), (2001, false), (2002, false), (2003, false), (2004, false), (2005, false), (2006, false), (2007, false), (2008, false), (2009, false), (2010, false), (2011, false), (2012, false), (2013, true), (2014, false), (2015, false), (2016, false), (2017, false), (2018, false), (2019, false)]) := isTab_of (by rw [hcl]; exact (by have := isc; unfold exB at this; simp only [Bool.and_eq_true] at this; exact this.1.1.1.1.1.1.1.1.1.1.1.1.1.1.1.1.1.1.1.1.1.1.1.1.1.1.1.1.1.1.1.1.1.1.1.1.1.1.1.1.1.1.1.1.1.1.1.1.1.1.1.1.1.1.1.1.1.1)) (by rw [hcl]; exact (by have := isc; unfold exB at this; simp only [Bool.and_eq_true] at this; exact this.1.1.1.1.1.1.1.1.1.1.1.1.1.1.1.1.1.1.1.1.1.1.1.1.1.1.1.1.1.1.1.1.1.1.1.1.1.1.1.1.1.1.2))
omit kin gn c sy gt pp in
theorem IT_NothingDone : IsTab g (.ref (g.cls 2017)) (etab [(2000, false), (2001, false), (2002, false), (2003, false), (2004, false), (2005, false), (2006, false), (2007, false), (2008, false), (2009, false), (2010, false), (2011, false), (2012, false), (2013, false), (2014, false), (2015, false), (2016, false), (2017, true), (2018, false), (2019, false)]) := isTab_of (by rw [hcl]; exact (by have := isc; unfold exB at this; simp only [Bool.and_eq_true] at this; exact this.1.1.1.1.1.1.1.1.1.1.1.1.1.1.1.1.1.1.1.1.1.1.1.1.1.1.1.1.1.1.1.1.1.1.1.1.1.1.1.1.1.1.1.1.1.1.1.1.1.1.1.1.1.1.1.1.1.1)) (by rw [hcl]; exact (by have := isc; unfold exB at this; simp only [Bool.and_eq_true] at this; exact this.1.1.1.1.1.1.1.1.1.1.1.1.1.1.1.1.1.1.1.1.1.1.1.1.1.1.1.1.1.1.1.1.1.1.1.1.1.1.1.1.1.2))
omit kin gn c sy gt pp in
theorem IT_RoundOpen : IsTab g (.ref (g.cls 2011)) (etab [(2000, false), (2001, false), (2002, false), (2003, false), (2004, false), (2005, false), (2006, false), (2007, false), (2008, false), (2009, false), (2010, false), (2011, true), (2012, false), (2013, false), (2014, false), (2015, false), (2016, false), (2017, false), (2018, false), (2019, false)]) := isTab_of (by rw [hcl]; exact (by have := isc; unfold exB at this; simp only [Bool.and_eq_true] at this; exact this.1.1.1.1.1.1.1.1.1.1.1.1.1.1.1.1.1.1.1.1.1.1.1.1.1.1.1.1.1.1.1.1.1.1.1.1.1.1.1.1.1.1.1.1.1.1.1.1.1.1.1.1.1.1.1.1.1.1)) (by rw [hcl]; exact (by have := isc; unfold exB at this; simp only [Bool.and_eq_true] at this; exact this.1.1.1.1.1.1.1.1.1.1.1.1.1.1.1.1.1.1.1.1.1.1.1.1.1.1.1.1.1.1.1.1.1.1.1.1.1.1.1.1.2))
omit kin gn c sy gt pp in
theorem IT_Unsafe : IsTab g (.ref (g.cls 2012)) (etab [(2000, false), (2001, false), (2002, false), (2003, false), (2004, false), (2005, false), (2006, false), (2007, false), (2008, false), (2009, false), (2010, false), (2011, false), (2012, true), (2013, false), (2014, false), (2015, false), (2016, false), (2017, false), (2018, false), (2019, false)]) := isTab_of (by rw [hcl]; exact (by have := isc; unfold exB at this; simp only [Bool.and_eq_true] at this; exact this.1.1.1.1.1.1.1.1.1.1.1.1.1.1.1.1.1.1.1.1.1.1.1.1.1.1.1.1.1.1.1.1.1.1.1.1.1.1.1.1.1.1.1.1.1.1.1.1.1.1.1.1.1.1.1.1.1.1)) (by rw [hcl]; exact (by have := isc; unfold exB at this; simp only [Bool.and_eq_true] at this; exact this.1.1.1.1.1.1.1.1.1.1.1.1.1.1.1.1.1.1.1.1.1.1.1.1.1.1.1.1.1.1.1.1.1.1.1.1.1.1.1.2))
omit kin gn c sy gt pp in
theorem IT_ValueError : IsTab g (.type "ValueError") (etab [(2000, true), (2001, true), (2002, true), (2003, true), (2004, true), (2005, true), (2006, true), (2007, true), (2008, true), (2009, true), (2010, true), (2011, true), (2012, true), (2013, true), (2014, true), (2015, true), (2016, true), (2017, true), (2018, true), (2019, true)]) := isTab_of (by rw [hcl]; exact (by have := isc; unfold exB at this; simp only [Bool.and_eq_true] at this; exact this.1.1.1.1.1.1.1.1.1.1.1.1.1.1.1.1.1.1.1.1.1.1.1.1.1.1.1.1.1.1.1.1.1.1.1.1.1.1.1.1.1.1.1.1.1.1.1.1.1.1.1.1.1.1.1.1.1.1)) (by rw [hcl]; exact (by have := isc; unfold exB at this; simp only [Bool.and_eq_true] at this; exact this.1.1.1.1.1.1.1.1.1.1.1.1.1.1.1.1.1.1.1.1.1.1.1.1.1.1.1.1.1.1.1.1.1.1.1.1.1.1.2))
omit kin gn c sy gt pp in
theorem IT_WayError : IsTab g (.ref (g.cls 2000)) (etab [(2000, true), (2001, true), (2002, true), (2003, true), (2004, true), (2005, true), (2006, true), (2007, true), (2008, true), (2009, true), (2010, true), (2011, true), (2012, true), (2013, true), (2014, true), (2015, true), (2016, true), (2017, true), (2018, true), (2019, true)]) := isTab_of (by rw [hcl]; exact (by have := isc; unfold exB at this; simp only [Bool.and_eq_true] at this; exact this.1.1.1.1.1.1.1.1.1.1.1.1.1.1.1.1.1.1.1.1.1.1.1.1.1.1.1.1.1.1.1.1.1.1.1.1.1.1.1.1.1.1.1.1.1.1.1.1.1.1.1.1.1.1.1.1.1.1)) (by rw [hcl]; exact (by have := isc; unfold exB at this; simp only [Bool.and_eq_true] at this; exact this.1.1.1.1.1.1.1.1.1.1.1.1.1.1.1.1.1.1.1.1.1.1.1.1.1.1.1.1.1.1.1.1.1.1.1.1.1.2))
omit kin gn c sy gt pp in
theorem EF_at : ∀ c, (fun c => ([2008, 2010, 2018] : List Nat).contains c) c = true → ErC g.K (g.cls c) ∧ PySem.W.findIn g.K (.ref (g.cls c)) "at" = some none := flds_of (by rw [hcl]; exact (by have := isc; unfold exB at this; simp only [Bool.and_eq_true] at this; exact this.1.1.1.1.1.1.1.1.1.1.1.1.1.1.1.1.1.1.1.1.1.1.1.1.1.1.1.1.1.1.1.1.1.1.1.1.2)) (by rw [hcl]; exact (by have := isc; unfold exB at this; simp only [Bool.and_eq_true] at this; exact this.1.1.1.1.1.1.1.1.1.1.1.1.1.1.1.1.1.1.1.1.1.1.1.1.1.1.1.1.1.1.1.1.1.1.1.2))
omit kin gn c sy gt pp in
theorem EF_goal : ∀ c, (fun c => ([2002] : List Nat).contains c) c = true → ErC g.K (g.cls c) ∧ PySem.W.findIn g.K (.ref (g.cls c)) "goal" = some none := flds_of (by rw [hcl]; exact (by have := isc; unfold exB at this; simp only [Bool.and_eq_true] at this; exact this.1.1.1.1.1.1.1.1.1.1.1.1.1.1.1.1.1.1.1.1.1.1.1.1.1.1.1.1.1.1.1.1.1.1.2)) (by rw [hcl]; exact (by have := isc; unfold exB at this; simp only [Bool.and_eq_true] at this; exact this.1.1.1.1.1.1.1.1.1.1.1.1.1.1.1.1.1.1.1.1.1.1.1.1.1.1.1.1.1.1.1.1.1.2))
omit kin gn c sy gt pp in
theorem EF_line : ∀ c, (fun c => ([2019] : List Nat).contains c) c = true → ErC g.K (g.cls c) ∧ PySem.W.findIn g.K (.ref (g.cls c)) "line" = some none := flds_of (by rw [hcl]; exact (by have := isc; unfold exB at this; simp only [Bool.and_eq_true] at this; exact this.1.1.1.1.1.1.1.1.1.1.1.1.1.1.1.1.1.1.1.1.1.1.1.1.1.1.1.1.1.1.1.1.2)) (by rw [hcl]; exact (by have := isc; unfold exB at this; simp only [Bool.and_eq_true] at this; exact this.1.1.1.1.1.1.1.1.1.1.1.1.1.1.1.1.1.1.1.1.1.1.1.1.1.1.1.1.1.1.1.2))
omit kin gn c sy gt pp in
theorem EF_node : ∀ c, (fun c => ([2003, 2013] : List Nat).contains c) c = true → ErC g.K (g.cls c) ∧ PySem.W.findIn g.K (.ref (g.cls c)) "node" = some none := flds_of (by rw [hcl]; exact (by have := isc; unfold exB at this; simp only [Bool.and_eq_true] at this; exact this.1.1.1.1.1.1.1.1.1.1.1.1.1.1.1.1.1.1.1.1.1.1.1.1.1.1.1.1.1.1.2)) (by rw [hcl]; exact (by have := isc; unfold exB at this; simp only [Bool.and_eq_true] at this; exact this.1.1.1.1.1.1.1.1.1.1.1.1.1.1.1.1.1.1.1.1.1.1.1.1.1.1.1.1.1.2))
omit kin gn c sy gt pp in
theorem EF_number : ∀ c, (fun c => ([2009] : List Nat).contains c) c = true → ErC g.K (g.cls c) ∧ PySem.W.findIn g.K (.ref (g.cls c)) "number" = some none := flds_of (by rw [hcl]; exact (by have := isc; unfold exB at this; simp only [Bool.and_eq_true] at this; exact this.1.1.1.1.1.1.1.1.1.1.1.1.1.1.1.1.1.1.1.1.1.1.1.1.1.1.1.1.2)) (by rw [hcl]; exact (by have := isc; unfold exB at this; simp only [Bool.and_eq_true] at this; exact this.1.1.1.1.1.1.1.1.1.1.1.1.1.1.1.1.1.1.1.1.1.1.1.1.1.1.1.2))
omit kin gn c sy gt pp in
theorem EF_packet : ∀ c, (fun c => ([2016] : List Nat).contains c) c = true → ErC g.K (g.cls c) ∧ PySem.W.findIn g.K (.ref (g.cls c)) "packet" = some none := flds_of (by rw [hcl]; exact (by have := isc; unfold exB at this; simp only [Bool.and_eq_true] at this; exact this.1.1.1.1.1.1.1.1.1.1.1.1.1.1.1.1.1.1.1.1.1.1.1.1.1.1.2)) (by rw [hcl]; exact (by have := isc; unfold exB at this; simp only [Bool.and_eq_true] at this; exact this.1.1.1.1.1.1.1.1.1.1.1.1.1.1.1.1.1.1.1.1.1.1.1.1.1.2))
omit kin gn c sy gt pp in
theorem EF_part : ∀ c, (fun c => ([2001, 2005] : List Nat).contains c) c = true → ErC g.K (g.cls c) ∧ PySem.W.findIn g.K (.ref (g.cls c)) "part" = some none := flds_of (by rw [hcl]; exact (by have := isc; unfold exB at this; simp only [Bool.and_eq_true] at this; exact this.1.1.1.1.1.1.1.1.1.1.1.1.1.1.1.1.1.1.1.1.1.1.1.1.2)) (by rw [hcl]; exact (by have := isc; unfold exB at this; simp only [Bool.and_eq_true] at this; exact this.1.1.1.1.1.1.1.1.1.1.1.1.1.1.1.1.1.1.1.1.1.1.1.2))
omit kin gn c sy gt pp in
theorem EF_wish : ∀ c, (fun c => ([2012] : List Nat).contains c) c = true → ErC g.K (g.cls c) ∧ PySem.W.findIn g.K (.ref (g.cls c)) "wish" = some none := flds_of (by rw [hcl]; exact (by have := isc; unfold exB at this; simp only [Bool.and_eq_true] at this; exact this.1.1.1.1.1.1.1.1.1.1.1.1.1.1.1.1.1.1.1.1.1.1.2)) (by rw [hcl]; exact (by have := isc; unfold exB at this; simp only [Bool.and_eq_true] at this; exact this.1.1.1.1.1.1.1.1.1.1.1.1.1.1.1.1.1.1.1.1.1.2))
omit kin gn c sy gt pp in
theorem ES_all : ∀ c, ([2000, 2004, 2006, 2007, 2011, 2014, 2015, 2017] : List Nat).contains c = true → StrC g.K (g.cls c) := strs_of (by rw [hcl]; exact (by have := isc; unfold exB at this; simp only [Bool.and_eq_true] at this; exact this.1.1.1.1.1.1.1.1.1.1.1.1.1.1.1.1.1.1.1.1.2))
omit kin gn c sy gt in
theorem OE_BadJournal : OEx g P 2018 "at" "at" := oexB_ok pp (by rw [hcl]; exact (by have := isc; unfold exB at this; simp only [Bool.and_eq_true] at this; exact this.1.1.1.1.1.1.1.1.1.1.1.1.1.1.1.1.1.1.1.2))
omit kin gn c sy gt in
theorem OE_BadLot : OEx g P 2005 "part" "part" := oexB_ok pp (by rw [hcl]; exact (by have := isc; unfold exB at this; simp only [Bool.and_eq_true] at this; exact this.1.1.1.1.1.1.1.1.1.1.1.1.1.1.1.1.1.1.2))
omit kin gn c sy gt in
theorem OE_BadNet : OEx g P 2001 "part" "part" := oexB_ok pp (by rw [hcl]; exact (by have := isc; unfold exB at this; simp only [Bool.and_eq_true] at this; exact this.1.1.1.1.1.1.1.1.1.1.1.1.1.1.1.1.1.2))
omit kin gn c sy gt in
theorem OE_BadNumber : OEx g P 2009 "number" "number" := oexB_ok pp (by rw [hcl]; exact (by have := isc; unfold exB at this; simp only [Bool.and_eq_true] at this; exact this.1.1.1.1.1.1.1.1.1.1.1.1.1.1.1.1.2))
omit kin gn c sy gt pp in
theorem EP_BadPlace : plainB g.K (g.cls 2004) = true := by rw [hcl]; exact (by have := isc; unfold exB at this; simp only [Bool.and_eq_true] at this; exact this.1.1.1.1.1.1.1.1.1.1.1.1.1.1.1.2)
omit kin gn c sy gt pp in
theorem EI_BadPlace : PySem.W.excIn g.K (g.cls 2004) [.type "ValueError", .type "Exception", .type "BaseException", .type "object"] "ValueError.__new__" = true := (Bool.and_eq_true_iff.mp (EP_BadPlace hcl isc)).1
omit kin gn c sy gt pp in
theorem EK_BadPlace : PySem.W.keepIn g.K (.ref (g.cls 2004)) = true := (Bool.and_eq_true_iff.mp (EP_BadPlace hcl isc)).2
omit kin gn c sy gt in
theorem OE_BadPlan : OEx g P 2008 "at" "at" := oexB_ok pp (by rw [hcl]; exact (by have := isc; unfold exB at this; simp only [Bool.and_eq_true] at this; exact this.1.1.1.1.1.1.1.1.1.1.1.1.1.1.2))
omit kin gn c sy gt in
theorem OE_BadSights : OEx g P 2010 "at" "at" := oexB_ok pp (by rw [hcl]; exact (by have := isc; unfold exB at this; simp only [Bool.and_eq_true] at this; exact this.1.1.1.1.1.1.1.1.1.1.1.1.1.2))
omit kin gn c sy gt in
theorem OE_BadText : OEx g P 2019 "line" "line" := oexB_ok pp (by rw [hcl]; exact (by have := isc; unfold exB at this; simp only [Bool.and_eq_true] at this; exact this.1.1.1.1.1.1.1.1.1.1.1.1.2))
omit kin gn c sy gt pp in
theorem EP_BadWish : plainB g.K (g.cls 2006) = true := by rw [hcl]; exact (by have := isc; unfold exB at this; simp only [Bool.and_eq_true] at this; exact this.1.1.1.1.1.1.1.1.1.1.1.2)
omit kin gn c sy gt pp in
theorem EI_BadWish : PySem.W.excIn g.K (g.cls 2006) [.type "ValueError", .type "Exception", .type "BaseException", .type "object"] "ValueError.__new__" = true := (Bool.and_eq_true_iff.mp (EP_BadWish hcl isc)).1
omit kin gn c sy gt pp in
theorem EK_BadWish : PySem.W.keepIn g.K (.ref (g.cls 2006)) = true := (Bool.and_eq_true_iff.mp (EP_BadWish hcl isc)).2
omit kin gn c sy gt pp in
theorem EP_BadWishes : plainB g.K (g.cls 2007) = true := by rw [hcl]; exact (by have := isc; unfold exB at this; simp only [Bool.and_eq_true] at this; exact this.1.1.1.1.1.1.1.1.1.1.2)
omit kin gn c sy gt pp in
theorem EI_BadWishes : PySem.W.excIn g.K (g.cls 2007) [.type "ValueError", .type "Exception", .type "BaseException", .type "object"] "ValueError.__new__" = true := (Bool.and_eq_true_iff.mp (EP_BadWishes hcl isc)).1
omit kin gn c sy gt pp in
theorem EK_BadWishes : PySem.W.keepIn g.K (.ref (g.cls 2007)) = true := (Bool.and_eq_true_iff.mp (EP_BadWishes hcl isc)).2
omit kin gn c sy gt pp in
theorem EP_HalfDone : plainB g.K (g.cls 2015) = true := by rw [hcl]; exact (by have := isc; unfold exB at this; simp only [Bool.and_eq_true] at this; exact this.1.1.1.1.1.1.1.1.1.2)
omit kin gn c sy gt pp in
theorem EI_HalfDone : PySem.W.excIn g.K (g.cls 2015) [.type "ValueError", .type "Exception", .type "BaseException", .type "object"] "ValueError.__new__" = true := (Bool.and_eq_true_iff.mp (EP_HalfDone hcl isc)).1
omit kin gn c sy gt pp in
theorem EK_HalfDone : PySem.W.keepIn g.K (.ref (g.cls 2015)) = true := (Bool.and_eq_true_iff.mp (EP_HalfDone hcl isc)).2
omit kin gn c sy gt in
theorem OE_NoGoal : OEx g P 2002 "goal" "goal" := oexB_ok pp (by rw [hcl]; exact (by have := isc; unfold exB at this; simp only [Bool.and_eq_true] at this; exact this.1.1.1.1.1.1.1.1.2))
omit kin gn c sy gt in
theorem OE_NoNode : OEx g P 2003 "node" "node" := oexB_ok pp (by rw [hcl]; exact (by have := isc; unfold exB at this; simp only [Bool.and_eq_true] at this; exact this.1.1.1.1.1.1.1.2))
omit kin gn c sy gt in
theorem OE_NoPacket : OEx g P 2016 "packet" "packet" := oexB_ok pp (by rw [hcl]; exact (by have := isc; unfold exB at this; simp only [Bool.and_eq_true] at this; exact this.1.1.1.1.1.1.2))
omit kin gn c sy gt pp in
theorem EP_NoRound : plainB g.K (g.cls 2014) = true := by rw [hcl]; exact (by have := isc; unfold exB at this; simp only [Bool.and_eq_true] at this; exact this.1.1.1.1.1.2)
omit kin gn c sy gt pp in
theorem EI_NoRound : PySem.W.excIn g.K (g.cls 2014) [.type "ValueError", .type "Exception", .type "BaseException", .type "object"] "ValueError.__new__" = true := (Bool.and_eq_true_iff.mp (EP_NoRound hcl isc)).1
omit kin gn c sy gt pp in
theorem EK_NoRound : PySem.W.keepIn g.K (.ref (g.cls 2014)) = true := (Bool.and_eq_true_iff.mp (EP_NoRound hcl isc)).2
omit kin gn c sy gt in
theorem OE_NotSo : OEx g P 2013 "node" "node" := oexB_ok pp (by rw [hcl]; exact (by have := isc; unfold exB at this; simp only [Bool.and_eq_true] at this; exact this.1.1.1.1.2))
omit kin gn c sy gt pp in
theorem EP_NothingDone : plainB g.K (g.cls 2017) = true := by rw [hcl]; exact (by have := isc; unfold exB at this; simp only [Bool.and_eq_true] at this; exact this.1.1.1.2)
omit kin gn c sy gt pp in
theorem EI_NothingDone : PySem.W.excIn g.K (g.cls 2017) [.type "ValueError", .type "Exception", .type "BaseException", .type "object"] "ValueError.__new__" = true := (Bool.and_eq_true_iff.mp (EP_NothingDone hcl isc)).1
omit kin gn c sy gt pp in
theorem EK_NothingDone : PySem.W.keepIn g.K (.ref (g.cls 2017)) = true := (Bool.and_eq_true_iff.mp (EP_NothingDone hcl isc)).2
omit kin gn c sy gt pp in
theorem EP_RoundOpen : plainB g.K (g.cls 2011) = true := by rw [hcl]; exact (by have := isc; unfold exB at this; simp only [Bool.and_eq_true] at this; exact this.1.1.2)
omit kin gn c sy gt pp in
theorem EI_RoundOpen : PySem.W.excIn g.K (g.cls 2011) [.type "ValueError", .type "Exception", .type "BaseException", .type "object"] "ValueError.__new__" = true := (Bool.and_eq_true_iff.mp (EP_RoundOpen hcl isc)).1
omit kin gn c sy gt pp in
theorem EK_RoundOpen : PySem.W.keepIn g.K (.ref (g.cls 2011)) = true := (Bool.and_eq_true_iff.mp (EP_RoundOpen hcl isc)).2
omit kin gn c sy gt in
theorem OE_Unsafe : OEx g P 2012 "wish" "wish" := oexB_ok pp (by rw [hcl]; exact (by have := isc; unfold exB at this; simp only [Bool.and_eq_true] at this; exact this.1.2))
omit kin gn c sy gt pp in
theorem EP_WayError : plainB g.K (g.cls 2000) = true := by rw [hcl]; exact (by have := isc; unfold exB at this; simp only [Bool.and_eq_true] at this; exact this.2)
omit kin gn c sy gt pp in
theorem EI_WayError : PySem.W.excIn g.K (g.cls 2000) [.type "ValueError", .type "Exception", .type "BaseException", .type "object"] "ValueError.__new__" = true := (Bool.and_eq_true_iff.mp (EP_WayError hcl isc)).1
omit kin gn c sy gt pp in
theorem EK_WayError : PySem.W.keepIn g.K (.ref (g.cls 2000)) = true := (Bool.and_eq_true_iff.mp (EP_WayError hcl isc)).2
theorem ok__law_begin : Fu g P w mg base 1 "_law_begin" "_law_begin" (top 22) ["script"] (f__law_begin T) (He.ga g.K "_law_begin") := by
  refine fu_of (N := ["script", "great", "cell"]) sy (c.def_ 0 (d := ⟨("_law_begin", none), "_law_begin", "_law_begin", defArgs (top 22), defBody (top 22), defScope (top 22), [], []⟩) rfl) ⟨rfl, rfl, rfl, by decide +kernel, rfl, by decide +kernel, by decide +kernel⟩ (fun _ _ _ _ _ _ us hl => match us, hl with | [_], _ => rfl) fun cdv A outer s H o => ?_
  exact b_cons (s_setLc [("cell", 2)] o (i_any o (d_var (pv 0))) (blk_of (by kernel_rfl)) (fun _ _ _ _ _ => g_name o.blk.nd) (fun _ _ _ _ _ => c_one (t_ge (d_abs rfl (Z_abs kin gn c) (d_var (pv 2))) (d_pow (d_int) (d_int)))) (fun _ _ _ _ _ => d_sub (d_abs rfl (Z_abs kin gn c) (d_var (pv 2))) (d_pow (d_int) (d_int))) (sw_true rfl rfl rfl rfl)) (b_one (s_ret (d_disp o (p_cons (d_str) (d_var (pv 1)) (p_cons (d_str) (d_int) (p_cons (d_str) (d_lc [("cell", 2)] o (i_any o (d_var (pv 0))) (blk_of (by kernel_rfl)) (fun _ _ _ _ _ => g_name o.blk.nd) (fun _ _ _ _ _ => c_nil) (fun _ _ _ _ _ => d_abs rfl (Z_abs kin gn c) (d_var (pv 2)))) (p_cons (d_str) (d_int) (p_nil))))))))
variable (ok__law_take : Fu g P w mg base 3 "_law_take" "_law_take" (top 25) ["draw", "size"] (T) (He.ga g.K "_law_take"))
include ok__law_take
theorem ok__law_marks : Fu g P w mg base 1 "_law_marks" "_law_marks" (top 26) ["error"] (f__law_marks_2 T) (He.ga g.K "_law_marks") := by
  refine fu_of (N := ["error", "some"]) sy (c.def_ 4 (d := ⟨("_law_marks", none), "_law_marks", "_law_marks", defArgs (top 26), defBody (top 26), defScope (top 26), [], []⟩) rfl) ⟨rfl, rfl, rfl, by decide +kernel, rfl, by decide +kernel, by decide +kernel⟩ (fun _ _ _ _ _ _ us hl => match us, hl with | [_], _ => rfl) fun cdv A outer s H o => ?_
  exact b_cons (s_set o.nd (d_lst (a_cons (d_isiE o rfl (Z_isinstance kin gn c) rfl (GE_BadNet kin gn c hcl) (IT_BadNet hcl isc) (d_var (pv 0))) (a_cons (d_isiE o rfl (Z_isinstance kin gn c) rfl (GE_NoGoal kin gn c hcl) (IT_NoGoal hcl isc) (d_var (pv 0))) (a_cons (d_isiE o rfl (Z_isinstance kin gn c) rfl (GE_NoNode kin gn c hcl) (IT_NoNode hcl isc) (d_var (pv 0))) (a_nil)))))) (b_cons (s_set o.nd (d_add o (d_var (pv 1)) (d_lst (a_cons (d_isiE o rfl (Z_isinstance kin gn c) rfl (GE_BadPlace kin gn c hcl) (IT_BadPlace hcl isc) (d_var (pv 0))) (a_cons (d_isiE o rfl (Z_isinstance kin gn c) rfl (GE_BadLot kin gn c hcl) (IT_BadLot hcl isc) (d_var (pv 0))) (a_cons (d_isiE o rfl (Z_isinstance kin gn c) rfl (GE_BadWish kin gn c hcl) (IT_BadWish hcl isc) (d_var (pv 0))) (a_nil))))))) (b_cons (s_expr (d_mL m_app (pe_bm PySem.F.plainAttrs_list PySem.F.slot_list_append PySem.F.type_list_append mt_append (pv 1) (a_cons (d_isiE o rfl (Z_isinstance kin gn c) rfl (GE_BadWishes kin gn c hcl) (IT_BadWishes hcl isc) (d_var (pv 0))) (a_nil))))) (b_cons (s_set o.nd (d_add o (d_var (pv 1)) (d_lst (a_cons (d_isiE o rfl (Z_isinstance kin gn c) rfl (GE_BadPlan kin gn c hcl) (IT_BadPlan hcl isc) (d_var (pv 0))) (a_cons (d_isiE o rfl (Z_isinstance kin gn c) rfl (GE_BadNumber kin gn c hcl) (IT_BadNumber hcl isc) (d_var (pv 0))) (a_cons (d_isiE o rfl (Z_isinstance kin gn c) rfl (GE_BadSights kin gn c hcl) (IT_BadSights hcl isc) (d_var (pv 0))) (a_nil))))))) (b_cons (s_set o.nd (d_add o (d_var (pv 1)) (d_lst (a_cons (d_isiE o rfl (Z_isinstance kin gn c) rfl (GE_RoundOpen kin gn c hcl) (IT_RoundOpen hcl isc) (d_var (pv 0))) (a_cons (d_isiE o rfl (Z_isinstance kin gn c) rfl (GE_Unsafe kin gn c hcl) (IT_Unsafe hcl isc) (d_var (pv 0))) (a_cons (d_isiE o rfl (Z_isinstance kin gn c) rfl (GE_NotSo kin gn c hcl) (IT_NotSo hcl isc) (d_var (pv 0))) (a_nil))))))) (b_cons (s_set o.nd (d_add o (d_var (pv 1)) (d_lst (a_cons (d_isiE o rfl (Z_isinstance kin gn c) rfl (GE_NoRound kin gn c hcl) (IT_NoRound hcl isc) (d_var (pv 0))) (a_cons (d_isiE o rfl (Z_isinstance kin gn c) rfl (GE_HalfDone kin gn c hcl) (IT_HalfDone hcl isc) (d_var (pv 0))) (a_cons (d_isiE o rfl (Z_isinstance kin gn c) rfl (GE_NoPacket kin gn c hcl) (IT_NoPacket hcl isc) (d_var (pv 0))) (a_nil))))))) (b_one (s_ret (d_add o (d_var (pv 1)) (d_lst (a_cons (d_isiE o rfl (Z_isinstance kin gn c) rfl (GE_NothingDone kin gn c hcl) (IT_NothingDone hcl isc) (d_var (pv 0))) (a_cons (d_isiE o rfl (Z_isinstance kin gn c) rfl (GE_BadJournal kin gn c hcl) (IT_BadJournal hcl isc) (d_var (pv 0))) (a_cons (d_isiE o rfl (Z_isinstance kin gn c) rfl (GE_BadText kin gn c hcl) (IT_BadText hcl isc) (d_var (pv 0))) (a_nil)))))))))))))
theorem ok__law_alone : Fu g P w mg base 2 "_law_alone" "_law_alone" (top 27) ["error", "place"] (f__law_alone T) (He.ga g.K "_law_alone") := by
  have ok__law_marks := ok__law_marks (P := P) (w := w) (base := base) kin gn c hcl sy isc gt pp ok__law_take
  refine fu_of (N := ["error", "place", "due", "k"]) sy (c.def_ 5 (d := ⟨("_law_alone", none), "_law_alone", "_law_alone", defArgs (top 27), defBody (top 27), defScope (top 27), [], []⟩) rfl) ⟨rfl, rfl, rfl, by decide +kernel, rfl, by decide +kernel, by decide +kernel⟩ (fun _ _ _ _ _ _ us hl => match us, hl with | [_, _], _ => rfl) fun cdv A outer s H o => ?_
  exact b_cons (s_setLc [("k", 3)] o (i_range1 rfl (Z_range kin gn c) (d_int)) (blk_of (by kernel_rfl)) (fun _ _ _ _ _ => g_name o.blk.nd) (fun _ _ _ _ _ => c_nil) (fun _ _ _ _ _ => d_eq o.blk (d_var (pv 3)) (d_var (pv 1))) (sw_true rfl rfl rfl rfl)) (b_one (s_ret (d_and (d_eq o (d_callF ok__law_marks o (G__law_marks kin gn c) (a_cons (d_var (pv 0)) (a_nil))) (d_var (pv 2))) (d_and (d_isiE o rfl (Z_isinstance kin gn c) rfl (GE_WayError kin gn c hcl) (IT_WayError hcl isc) (d_var (pv 0))) (d_one (d_isiEB o rfl (Z_isinstance kin gn c) rfl (Z_ValueError kin gn c) (IT_ValueError hcl isc) (d_var (pv 0))))))))
theorem ok__law_pick : Fu g P w mg base 4 "_law_pick" "_law_pick" (top 24) ["draw", "some"] (f__law_pick T) (He.ga g.K "_law_pick") := by
  refine fu_of (N := ["draw", "some"]) sy (c.def_ 2 (d := ⟨("_law_pick", none), "_law_pick", "_law_pick", defArgs (top 24), defBody (top 24), defScope (top 24), [], []⟩) rfl) ⟨rfl, rfl, rfl, by decide +kernel, rfl, by decide +kernel, by decide +kernel⟩ (fun _ _ _ _ _ _ us hl => match us, hl with | [_, _], _ => rfl) fun cdv A outer s H o => ?_
  exact b_one (s_ret (d_idx o (d_var (pv 1)) (d_callF ok__law_take o (G__law_take kin gn c) (a_cons (d_var (pv 0)) (a_cons (d_len' o rfl (Z_len kin gn c) (d_var (pv 1))) (a_nil))))))
theorem ok__law_plain : Fu g P w mg base 1 "_law_plain" "_law_plain" (top 28) ["page"] (f__law_plain T) (He.ga g.K "_law_plain") := by
  refine fu_of (N := ["page", "some"]) sy (c.def_ 6 (d := ⟨("_law_plain", none), "_law_plain", "_law_plain", defArgs (top 28), defBody (top 28), defScope (top 28), [], []⟩) rfl) ⟨rfl, rfl, rfl, by decide +kernel, rfl, by decide +kernel, by decide +kernel⟩ (fun _ _ _ _ _ _ us hl => match us, hl with | [_], _ => rfl) fun cdv A outer s H o => ?_
  exact b_cons (s_set o.nd (d_lst (a_cons (d_tup (a_cons (d_int) (a_cons (d_errT o PySem.F.excBase_ValueError (EI_BadPlace hcl isc) (GE_BadPlace kin gn c hcl) (EK_BadPlace hcl isc) (d_var (pv 0))) (a_nil)))) (a_cons (d_tup (a_cons (d_int) (a_cons (d_errT o PySem.F.excBase_ValueError (EI_BadWish hcl isc) (GE_BadWish kin gn c hcl) (EK_BadWish hcl isc) (d_var (pv 0))) (a_nil)))) (a_cons (d_tup (a_cons (d_int) (a_cons (d_errT o PySem.F.excBase_ValueError (EI_BadWishes hcl isc) (GE_BadWishes kin gn c hcl) (EK_BadWishes hcl isc) (d_var (pv 0))) (a_nil)))) (a_cons (d_tup (a_cons (d_int) (a_cons (d_errT o PySem.F.excBase_ValueError (EI_RoundOpen hcl isc) (GE_RoundOpen kin gn c hcl) (EK_RoundOpen hcl isc) (d_var (pv 0))) (a_nil)))) (a_cons (d_tup (a_cons (d_int) (a_cons (d_errT o PySem.F.excBase_ValueError (EI_NoRound hcl isc) (GE_NoRound kin gn c hcl) (EK_NoRound hcl isc) (d_var (pv 0))) (a_nil)))) (a_nil)))))))) (b_one (s_ret (d_add o (d_var (pv 1)) (d_lst (a_cons (d_tup (a_cons (d_int) (a_cons (d_errT o PySem.F.excBase_ValueError (EI_HalfDone hcl isc) (GE_HalfDone kin gn c hcl) (EK_HalfDone hcl isc) (d_var (pv 0))) (a_nil)))) (a_cons (d_tup (a_cons (d_int) (a_cons (d_errT o PySem.F.excBase_ValueError (EI_NothingDone hcl isc) (GE_NothingDone kin gn c hcl) (EK_NothingDone hcl isc) (d_var (pv 0))) (a_nil)))) (a_cons (d_tup (a_cons (d_int) (a_cons (d_errT o PySem.F.excBase_ValueError (EI_WayError hcl isc) (GE_WayError kin gn c hcl) (EK_WayError hcl isc) (d_var (pv 0))) (a_nil)))) (a_nil))))))))
theorem ok__law_with_fields : Fu g P w mg base 3 "_law_with_fields" "_law_with_fields" (top 29) ["item"] (f__law_with_fields T) (He.ga g.K "_law_with_fields") := by
  refine fu_of (N := ["item", "some", "done", "k", "error"]) sy (c.def_ 7 (d := ⟨("_law_with_fields", none), "_law_with_fields", "_law_with_fields", defArgs (top 29), defBody (top 29), defScope (top 29), [], []⟩) rfl) ⟨rfl, rfl, rfl, by decide +kernel, rfl, by decide +kernel, by decide +kernel⟩ (fun _ _ _ _ _ _ us hl => match us, hl with | [_], _ => rfl) fun cdv A outer s H o => ?_
  exact b_cons (s_set o.nd (d_lst (a_cons (d_errD o (OE_BadNet hcl isc pp) (GE_BadNet kin gn c hcl) (Z_super kin gn c) (d_var (pv 0))) (a_cons (d_errDK o (OE_BadNet hcl isc pp) (GE_BadNet kin gn c hcl) (Z_super kin gn c) (k_cons (d_var (pv 0)) k_nil)) (a_cons (d_errD o (OE_BadLot hcl isc pp) (GE_BadLot kin gn c hcl) (Z_super kin gn c) (d_var (pv 0))) (a_cons (d_errDK o (OE_BadLot hcl isc pp) (GE_BadLot kin gn c hcl) (Z_super kin gn c) (k_cons (d_var (pv 0)) k_nil)) (a_nil))))))) (b_cons (s_setLc [("k", 3), ("error", 4)] o (i_enum o rfl (Z_enumerate kin gn c) (d_var (pv 1))) (blk_of (by kernel_rfl)) (fun _ _ _ _ _ => g_tup o.blk (ts_cons (g_name o.blk.nd) (ts_cons (g_name o.blk.nd) (ts_nil)))) (fun _ _ _ _ _ => c_nil) (fun _ _ _ _ _ => d_tup (a_cons (d_idx o.blk (d_lst (a_cons (d_int) (a_cons (d_int) (a_nil)))) (d_div (d_var (pv 3)) (d_int))) (a_cons (d_var (pv 4)) (a_cons (d_errF o.blk (EF_part hcl isc) (d_var (pv 4))) (a_nil))))) (sw_true rfl rfl rfl rfl)) (b_cons (s_set o.nd (d_add o (d_var (pv 2)) (d_lc [("error", 4)] o (i_any o (d_lst (a_cons (d_errD o (OE_NoGoal hcl isc pp) (GE_NoGoal kin gn c hcl) (Z_super kin gn c) (d_var (pv 0))) (a_cons (d_errDK o (OE_NoGoal hcl isc pp) (GE_NoGoal kin gn c hcl) (Z_super kin gn c) (k_cons (d_var (pv 0)) k_nil)) (a_nil))))) (blk_of (by kernel_rfl)) (fun _ _ _ _ _ => g_name o.blk.nd) (fun _ _ _ _ _ => c_nil) (fun _ _ _ _ _ => d_tup (a_cons (d_int) (a_cons (d_var (pv 4)) (a_cons (d_errF o.blk (EF_goal hcl isc) (d_var (pv 4))) (a_nil)))))))) (b_cons (s_set o.nd (d_lst (a_cons (d_errD o (OE_NoNode hcl isc pp) (GE_NoNode kin gn c hcl) (Z_super kin gn c) (d_var (pv 0))) (a_cons (d_errDK o (OE_NoNode hcl isc pp) (GE_NoNode kin gn c hcl) (Z_super kin gn c) (k_cons (d_var (pv 0)) k_nil)) (a_cons (d_errD o (OE_NotSo hcl isc pp) (GE_NotSo kin gn c hcl) (Z_super kin gn c) (d_var (pv 0))) (a_cons (d_errDK o (OE_NotSo hcl isc pp) (GE_NotSo kin gn c hcl) (Z_super kin gn c) (k_cons (d_var (pv 0)) k_nil)) (a_nil))))))) (b_cons (s_set o.nd (d_add o (d_var (pv 2)) (d_lc [("k", 3), ("error", 4)] o (i_enum o rfl (Z_enumerate kin gn c) (d_var (pv 1))) (blk_of (by kernel_rfl)) (fun _ _ _ _ _ => g_tup o.blk (ts_cons (g_name o.blk.nd) (ts_cons (g_name o.blk.nd) (ts_nil)))) (fun _ _ _ _ _ => c_nil) (fun _ _ _ _ _ => d_tup (a_cons (d_idx o.blk (d_lst (a_cons (d_int) (a_cons (d_int) (a_nil)))) (d_div (d_var (pv 3)) (d_int))) (a_cons (d_var (pv 4)) (a_cons (d_errF o.blk (EF_node hcl isc) (d_var (pv 4))) (a_nil)))))))) (b_cons (s_set o.nd (d_lst (a_cons (d_errD o (OE_BadPlan hcl isc pp) (GE_BadPlan kin gn c hcl) (Z_super kin gn c) (d_var (pv 0))) (a_cons (d_errDK o (OE_BadPlan hcl isc pp) (GE_BadPlan kin gn c hcl) (Z_super kin gn c) (k_cons (d_var (pv 0)) k_nil)) (a_cons (d_errD o (OE_BadSights hcl isc pp) (GE_BadSights kin gn c hcl) (Z_super kin gn c) (d_var (pv 0))) (a_cons (d_errDK o (OE_BadSights hcl isc pp) (GE_BadSights kin gn c hcl) (Z_super kin gn c) (k_cons (d_var (pv 0)) k_nil)) (a_nil))))))) (b_cons (s_set o.nd (d_add o (d_var (pv 1)) (d_lst (a_cons (d_errD o (OE_BadJournal hcl isc pp) (GE_BadJournal kin gn c hcl) (Z_super kin gn c) (d_var (pv 0))) (a_cons (d_errDK o (OE_BadJournal hcl isc pp) (GE_BadJournal kin gn c hcl) (Z_super kin gn c) (k_cons (d_var (pv 0)) k_nil)) (a_nil)))))) (b_cons (s_set o.nd (d_add o (d_var (pv 2)) (d_lc [("k", 3), ("error", 4)] o (i_enum o rfl (Z_enumerate kin gn c) (d_var (pv 1))) (blk_of (by kernel_rfl)) (fun _ _ _ _ _ => g_tup o.blk (ts_cons (g_name o.blk.nd) (ts_cons (g_name o.blk.nd) (ts_nil)))) (fun _ _ _ _ _ => c_nil) (fun _ _ _ _ _ => d_tup (a_cons (d_idx o.blk (d_lst (a_cons (d_int) (a_cons (d_int) (a_cons (d_int) (a_nil))))) (d_div (d_var (pv 3)) (d_int))) (a_cons (d_var (pv 4)) (a_cons (d_errF o.blk (EF_at hcl isc) (d_var (pv 4))) (a_nil)))))))) (b_cons (s_set o.nd (d_add o (d_var (pv 2)) (d_lc [("error", 4)] o (i_any o (d_lst (a_cons (d_errD o (OE_BadNumber hcl isc pp) (GE_BadNumber kin gn c hcl) (Z_super kin gn c) (d_var (pv 0))) (a_cons (d_errDK o (OE_BadNumber hcl isc pp) (GE_BadNumber kin gn c hcl) (Z_super kin gn c) (k_cons (d_var (pv 0)) k_nil)) (a_nil))))) (blk_of (by kernel_rfl)) (fun _ _ _ _ _ => g_name o.blk.nd) (fun _ _ _ _ _ => c_nil) (fun _ _ _ _ _ => d_tup (a_cons (d_int) (a_cons (d_var (pv 4)) (a_cons (d_errF o.blk (EF_number hcl isc) (d_var (pv 4))) (a_nil)))))))) (b_cons (s_set o.nd (d_add o (d_var (pv 2)) (d_lc [("error", 4)] o (i_any o (d_lst (a_cons (d_errD o (OE_Unsafe hcl isc pp) (GE_Unsafe kin gn c hcl) (Z_super kin gn c) (d_var (pv 0))) (a_cons (d_errDK o (OE_Unsafe hcl isc pp) (GE_Unsafe kin gn c hcl) (Z_super kin gn c) (k_cons (d_var (pv 0)) k_nil)) (a_nil))))) (blk_of (by kernel_rfl)) (fun _ _ _ _ _ => g_name o.blk.nd) (fun _ _ _ _ _ => c_nil) (fun _ _ _ _ _ => d_tup (a_cons (d_int) (a_cons (d_var (pv 4)) (a_cons (d_errF o.blk (EF_wish hcl isc) (d_var (pv 4))) (a_nil)))))))) (b_cons (s_set o.nd (d_add o (d_var (pv 2)) (d_lc [("error", 4)] o (i_any o (d_lst (a_cons (d_errD o (OE_NoPacket hcl isc pp) (GE_NoPacket kin gn c hcl) (Z_super kin gn c) (d_var (pv 0))) (a_cons (d_errDK o (OE_NoPacket hcl isc pp) (GE_NoPacket kin gn c hcl) (Z_super kin gn c) (k_cons (d_var (pv 0)) k_nil)) (a_nil))))) (blk_of (by kernel_rfl)) (fun _ _ _ _ _ => g_name o.blk.nd) (fun _ _ _ _ _ => c_nil) (fun _ _ _ _ _ => d_tup (a_cons (d_int) (a_cons (d_var (pv 4)) (a_cons (d_errF o.blk (EF_packet hcl isc) (d_var (pv 4))) (a_nil)))))))) (b_one (s_ret (d_add o (d_var (pv 2)) (d_lc [("error", 4)] o (i_any o (d_lst (a_cons (d_errD o (OE_BadText hcl isc pp) (GE_BadText kin gn c hcl) (Z_super kin gn c) (d_var (pv 0))) (a_cons (d_errDK o (OE_BadText hcl isc pp) (GE_BadText kin gn c hcl) (Z_super kin gn c) (k_cons (d_var (pv 0)) k_nil)) (a_nil))))) (blk_of (by kernel_rfl)) (fun _ _ _ _ _ => g_name o.blk.nd) (fun _ _ _ _ _ => c_nil) (fun _ _ _ _ _ => d_tup (a_cons (d_int) (a_cons (d_var (pv 4)) (a_cons (d_errF o.blk (EF_line hcl isc) (d_var (pv 4))) (a_nil)))))))))))))))))))
end
section
variable {K : PySem.W.Frag} {ad ga ca : Addr} {P : Program} {w : World} {mg : Str → Option Value} {base h : Heap} (kin : K.In h) (gn : h.Ns mainGlobals mg) (c : He.SaysD fa fn K) (sy : ∃ u, base.get? sysModules = some u) (isc : exB K = true) (gt : GetsD gts K) (pp : PrOk P "/claim/cut.py")
include kin gn c sy isc gt pp
theorem ok_blend : Fu (gD w K (clsOf K) ad ga ca) P w mg base 1 "_law_blend" "_law_blend" (top 23) ["draw"] (f_blend) (He.ga K "_law_blend") := by
  refine fu_of (g := gD w K (clsOf K) ad ga ca) (N := ["draw", "turn", "found", "prime", "blend", "cell"]) ⟨sy, rfl⟩ (c.def_ 1 (d := ⟨("_law_blend", none), "_law_blend", "_law_blend", defArgs (top 23), defBody (top 23), defScope (top 23), [], []⟩) rfl) ⟨rfl, rfl, rfl, by decide +kernel, rfl, by decide +kernel, by decide +kernel⟩ (fun _ _ _ _ _ _ us hl => match us, hl with | [_], _ => rfl) fun cdv A outer s H o => ?_
  have o0 : XO (g0 w K (clsOf K)) _ _ := ⟨o.K, o.rm, o.calm, o.nd, o.gd, o.sy⟩
  have c : He.SaysD fa fn (g0 w K (clsOf K)).K := c
  have kin : (g0 w K (clsOf K)).K.In h := kin
  exact b_cons (s_set o.nd (d_add o (r_get o (pv 0) (fun _ => rfl)) d_int)) (b_cons (r_put o (pv 0) (d_var (pv 1)) (fun _ _ => ⟨rfl, rfl, rfl⟩)) (b_frz (b_cons (s_set o0.nd (d_int)) (b_cons (s_for .never rfl (i_any o0 (d_lst (a_cons (d_int) (a_cons (d_int) (a_cons (d_int) (a_cons (d_int) (a_nil))))))) (g_name o0.nd) (b_cons (s_set o0.nd (d_mod (d_int1 rfl (Z_int kin gn c) (d_add o0 (d_mul (d_var (pv 1)) (d_int)) (d_div (d_var (pv 3)) (d_int)))) (d_var (pv 3)))) (b_cons (s_for .never rfl (i_any o0 (d_idx o0 (d_var (pv 0)) (d_str))) (g_name o0.nd) (b_one (s_set o0.nd (d_mod (d_int1 rfl (Z_int kin gn c) (d_add o0 (d_mul (d_var (pv 4)) (d_int)) (d_var (pv 5)))) (d_var (pv 3)))))) (b_one (s_set o0.nd (d_add o0 (d_mul (d_var (pv 2)) (d_int)) (d_mod (d_int1 rfl (Z_int kin gn c) (d_pow (d_var (pv 4)) (d_int))) (d_var (pv 3))))))))) (b_one (s_ret (d_var (pv 2))))))))
theorem ok_take : Fu (gD w K (clsOf K) ad ga ca) P w mg base 2 "_law_take" "_law_take" (top 25) ["draw", "size"] (f_take (decide (ga = ca))) (He.ga K "_law_take") := by
  have ok_blend := ok_blend (P := P) (w := w) (base := base) (ad := ad) (ga := ga) (ca := ca) kin gn c sy isc gt pp
  refine fu_of (g := gD w K (clsOf K) ad ga ca) (N := ["draw", "size", "found"]) ⟨sy, rfl⟩ (c.def_ 3 (d := ⟨("_law_take", none), "_law_take", "_law_take", defArgs (top 25), defBody (top 25), defScope (top 25), [], []⟩) rfl) ⟨rfl, rfl, rfl, by decide +kernel, rfl, by decide +kernel, by decide +kernel⟩ (fun _ _ _ _ _ _ us hl => match us, hl with | [_, _], _ => rfl) fun cdv A outer s H o => ?_
  exact b_cons (s_if (DW.t (w_and (t_eq o (r_get o (pv 0) (fun _ => rfl)) d_int) (w_one_and (r_great o (pv 0))))) (b_one (r_put o (pv 0) (r_pop o (pv 0)) (fun _ _ => ⟨rfl, rfl, rfl⟩))) b_nil) (b_cons (s_if (t_eq o (r_get o (pv 0) (fun _ => rfl)) d_int) (b_one (r_put o (pv 0) (d_callF ok_blend o (G__law_blend (g := gD w K (clsOf K) ad ga ca) kin gn c) (a_cons (d_var (pv 0)) a_nil)) (fun _ _ => ⟨rfl, rfl, rfl⟩))) b_nil) (b_cons (s_set o.nd (d_mod (d_int1 rfl (Z_int (g := gD w K (clsOf K) ad ga ca) kin gn c) (r_get o (pv 0) (fun _ => rfl))) (d_var (pv 1)))) (b_cons (r_put o (pv 0) (d_div (r_get o (pv 0) (fun _ => rfl)) (d_var (pv 1))) (fun _ _ => ⟨rfl, rfl, rfl⟩)) (b_one (s_ret (d_var (pv 2)))))))
theorem ok_law (h1 : ∀ ns : List Int, ns.length ≤ 63 → ∃ r, m_begin1 ⟨lawE 7 ns none, ()⟩ = some (.nx, ⟨lawE 7 ns (some ⟨drD r, true⟩), ()⟩))
    (h2 : ∀ (ns : List Int) (b : Bool) (r : Dr), ns.length ≤ 63 → ∃ s', m_law_k01 (f_take b) ⟨lawE 7 ns (some ⟨.res, false⟩), r⟩ = some (.rt (.sh (.bl true)), s')) {fd : FuncData} (F : FnP K "law" "law" (top 30) (He.ga K "law") fd) : FnG P w K mg base 5 (He.ga K "law") fd ["script"] (spLaw K 63) := by
  have ok__law_begin := ok__law_begin (g := g0 w K (clsOf K)) (P := P) (w := w) (base := base) (T := fun _ _ => none) kin gn c rfl ⟨sy, rfl⟩ isc gt pp
  refine law_ok (cls := clsOf K) (xd := "draw") (m1 := m_begin1) (m2 := fun b => m_law_k01 (f_take b)) (N2 := ["turn", "page", "item", "place", "error", "field", "ground"]) sy F ⟨rfl, rfl, rfl, by decide +kernel, rfl, by decide +kernel, by decide +kernel⟩ rfl (fun cdv A outer s H o => ?_) (fun ad ga ca cdv A outer s H o => ?_) h1 h2
  · exact s_set o.nd (d_callF ok__law_begin o (G__law_begin (g := g0 w K (clsOf K)) kin gn c) (a_cons (d_var (pv 0)) a_nil))
  · have ok__law_take := (ok_take (P := P) (w := w) (base := base) (ad := ad) (ga := ga) (ca := ca) kin gn c sy isc gt pp).mono (by decide : 2 ≤ 3)
    have hcl : (gD w K (clsOf K) ad ga ca).cls = clsOf (gD w K (clsOf K) ad ga ca).K := rfl
    have c : He.SaysD fa fn (gD w K (clsOf K) ad ga ca).K := c
    have kin : (gD w K (clsOf K) ad ga ca).K.In h := kin
    have ok__law_alone := ok__law_alone (g := gD w K (clsOf K) ad ga ca) (P := P) (w := w) (base := base) kin gn c hcl ⟨sy, rfl⟩ isc gt pp ok__law_take
    have ok__law_marks := ok__law_marks (g := gD w K (clsOf K) ad ga ca) (P := P) (w := w) (base := base) kin gn c hcl ⟨sy, rfl⟩ isc gt pp ok__law_take
    have ok__law_pick := ok__law_pick (g := gD w K (clsOf K) ad ga ca) (P := P) (w := w) (base := base) kin gn c hcl ⟨sy, rfl⟩ isc gt pp ok__law_take
    have ok__law_plain := ok__law_plain (g := gD w K (clsOf K) ad ga ca) (P := P) (w := w) (base := base) kin gn c hcl ⟨sy, rfl⟩ isc gt pp ok__law_take
    have ok__law_with_fields := ok__law_with_fields (g := gD w K (clsOf K) ad ga ca) (P := P) (w := w) (base := base) kin gn c hcl ⟨sy, rfl⟩ isc gt pp ok__law_take
    exact b_cons (s_for .never rfl (i_range1 rfl (Z_range kin gn c) (d_add o (d_int) (d_min2 o rfl (Z_min kin gn c) (d_len' o rfl (Z_len kin gn c) (d_var (pv 0))) (d_int)))) (g_name o.nd) (b_cons (s_set o.nd (d_callF ok__law_pick o (G__law_pick kin gn c) (a_cons (d_var (pv 1)) (a_cons (d_lst (a_cons (d_str) (a_cons (d_str) (a_cons (d_str) (a_cons (d_str) (a_nil)))))) (a_nil))))) (b_cons (s_set o.nd (d_callF ok__law_pick o (G__law_pick kin gn c) (a_cons (d_var (pv 1)) (a_cons (d_lst (a_cons (d_int) (a_cons (d_int) (a_cons (d_non) (a_cons (d_str) (a_cons (d_str) (a_cons (d_tup (a_cons (d_int) (a_cons (d_non) (a_nil)))) (a_cons (d_tup (a_cons (d_tup (a_cons (d_int) (a_cons (d_bl) (a_nil)))) (a_nil))) (a_cons (d_lst (a_cons (d_int) (a_nil))) (a_cons (d_pow (d_int) (d_int)) (a_nil))))))))))) (a_nil))))) (b_cons (s_for .never rfl (i_any o (d_callF ok__law_plain o (G__law_plain kin gn c) (a_cons (d_var (pv 3)) (a_nil)))) (g_tup o (ts_cons (g_name o.nd) (ts_cons (g_name o.nd) (ts_nil)))) (b_one (s_if (DW.t (w_or (t_ne o (d_strE o rfl (Z_str kin gn c) (ES_all hcl isc) (d_var (pv 6))) (d_var (pv 3))) (w_one_or (DW.t (w_and (t_lt (d_var (pv 5)) (d_int)) (w_one_and (t_not (t_val (d_callF ok__law_alone o (G__law_alone kin gn c) (a_cons (d_var (pv 6)) (a_cons (d_var (pv 5)) (a_nil)))))))))))) (b_one (s_ret (d_bl))) (b_nil)))) (b_cons (s_for .never rfl (i_any o (d_callF ok__law_with_fields o (G__law_with_fields kin gn c) (a_cons (d_var (pv 4)) (a_nil)))) (g_tup o (ts_cons (g_name o.nd) (ts_cons (g_name o.nd) (ts_cons (g_name o.nd) (ts_nil))))) (b_one (s_if (DW.t (w_or (t_not (t_val (d_callF ok__law_alone o (G__law_alone kin gn c) (a_cons (d_var (pv 6)) (a_cons (d_var (pv 5)) (a_nil)))))) (w_one_or (t_ne o (d_repr o rfl (Z_repr kin gn c) (d_var (pv 7))) (d_repr o rfl (Z_repr kin gn c) (d_var (pv 4))))))) (b_one (s_ret (d_bl))) (b_nil)))) (b_cons (s_set o.nd (d_errT o PySem.F.excBase_ValueError (EI_WayError hcl isc) (GE_WayError kin gn c hcl) (EK_WayError hcl isc) (d_var (pv 3)))) (b_one (s_if (DW.t (w_or (t_ne o (d_callF ok__law_marks o (G__law_marks kin gn c) (a_cons (d_var (pv 8)) (a_nil))) (d_mul (d_lst (a_cons (d_bl) (a_nil))) (d_int))) (w_one_or (t_not (t_val (d_isiEB o rfl (Z_isinstance kin gn c) rfl (Z_ValueError kin gn c) (IT_ValueError hcl isc) (d_var (pv 8)))))))) (b_one (s_ret (d_bl))) (b_nil))))))))) (b_one (s_ret (d_bl)))
end
end RW
namespace RW
open PySem L2
@[simp] theorem gt_int (i j : Int) : gtD (.int i) (.int j) = some (.sh (.bl (decide (j < i)))) := rfl
section
variable {R : Type}
def Ev {α β : Type} (x : Option (α × β)) (Q : α → β → Prop) : Prop := ∃ a b, x = some (a, b) ∧ Q a b
@[simp] theorem Ev_some {α β : Type} {a : α} {b : β} {Q : α → β → Prop} : Ev (some (a, b)) Q ↔ Q a b :=
  ⟨fun ⟨_, _, e, q⟩ => by cases e; exact q, fun q => ⟨a, b, rfl, q⟩⟩
@[simp] theorem Ev_none {α β : Type} {Q : α → β → Prop} : Ev (none : Option (α × β)) Q ↔ False := ⟨fun ⟨_, _, e, _⟩ => (by cases e), fun z => z.elim⟩
@[simp] theorem Ev_bind {α β γ δ : Type} {x : Option (α × β)} {f : α × β → Option (γ × δ)} {Q : γ → δ → Prop} : Ev (x.bind f) Q ↔ Ev x (fun a b => Ev (f (a, b)) Q) := by
  constructor
  · rintro ⟨c, d, e, q⟩
    obtain ⟨⟨a, b⟩, e1, e2⟩ := Option.bind_eq_some_iff.mp e
    exact ⟨a, b, e1, c, d, e2, q⟩
  · rintro ⟨a, b, e1, c, d, e2, q⟩
    exact ⟨c, d, by rw [e1]; exact e2, q⟩
@[simp] theorem Ev_map {α β γ δ : Type} {x : Option (α × β)} {f : α × β → γ × δ} {Q : γ → δ → Prop} : Ev (x.map f) Q ↔ Ev x (fun a b => Q (f (a, b)).1 (f (a, b)).2) := by
  constructor
  · rintro ⟨c, d, e, q⟩
    obtain ⟨⟨a, b⟩, e1, e2⟩ := Option.map_eq_some_iff.mp e
    exact ⟨a, b, e1, by show Q (f (a, b)).1 (f (a, b)).2; rw [e2]; exact q⟩
  · rintro ⟨a, b, e1, q⟩
    exact ⟨_, _, by rw [e1]; rfl, q⟩
theorem Ev.mono {α β : Type} {x : Option (α × β)} {Q Q' : α → β → Prop} (h : Ev x Q) (w : ∀ a b, Q a b → Q' a b) : Ev x Q' := by
  obtain ⟨a, b, e, q⟩ := h
  exact ⟨a, b, e, w a b q⟩
theorem for_ev {T : Tg} {mb : MS R} (I : List D → S R → Prop) (Q : Fl → S R → Prop)
    (h : ∀ d ds s, I (d :: ds) s → match bindT T d s.e with
      | some e' => Ev (mb { s with e := e' }) (fun fl s' => match fl with
        | .nx => I ds s'
        | .ct => I ds s'
        | .bk => Q .nx s'
        | .rt v => Q (.rt v) s')
      | none => False)
    (h0 : ∀ s, I [] s → Q .nx s) : ∀ (ds : List D) (s : S R), I ds s → Ev (forL T mb ds s) Q := by
  intro ds
  induction ds with
  | nil => exact fun s hs => ⟨.nx, s, rfl, h0 s hs⟩
  | cons d ds ih =>
    intro s hs
    have q := h d ds s hs
    split at q
    · rename_i e' e1
      obtain ⟨fl, s', e2, q⟩ := q
      cases fl with
      | nx =>
        obtain ⟨fl', s2, e3, q2⟩ := ih s' q
        exact ⟨fl', s2, by simp [forL, e1, e2, e3], q2⟩
      | ct =>
        obtain ⟨fl', s2, e3, q2⟩ := ih s' q
        exact ⟨fl', s2, by simp [forL, e1, e2, e3], q2⟩
      | bk => exact ⟨.nx, s', by simp [forL, e1, e2], q⟩
      | rt v => exact ⟨.rt v, s', by simp [forL, e1, e2], q⟩
    · exact q.elim
theorem mFor_ev {T : Tg} {mb : MS R} {mi : M R (List D)} {ds : List D} {s s1 : S R} {Q : Fl → S R → Prop} (hi : mi s = some (ds, s1)) (h : Ev (forL T mb ds s1) Q) : Ev (mFor mi T mb s) Q := by
  obtain ⟨a, b, e, q⟩ := h
  exact ⟨a, b, by simp [mFor, hi, e], q⟩
theorem lc_enc {α : Type} {vs : List Nat} {T : Tg} {mt me : M R Vr} (enc : α → D) (p : α → Bool) (f : α → D) {s : S R} : ∀ (xs : List α) (acc : List D), plainAt s.e vs = true →
    (∀ x ∈ xs, match bindT T (enc x) (wipeE s.e vs) with
      | some e' => backE s.e e' vs = s.e ∧ mt { s with e := e' } = some (.sh (.bl (p x)), { s with e := e' }) ∧ (p x = true → Ev (me { s with e := e' }) (fun v s2 => s2 = { s with e := e' } ∧ esc (soft v) { s with e := e' } = some (f x, { s with e := e' })))
      | none => False) →
    acc.length + xs.length ≤ sizeLine → lcL vs T mt me (xs.map enc) acc s = some (acc ++ (xs.filter p).map f, s)
  | [], acc, _, _, _ => by simp [lcL]
  | x :: xs, acc, hp, h, hl => by
    have ht := fun x hx => h x (List.mem_cons_of_mem _ hx)
    simp only [List.length_cons] at hl
    have q := h x List.mem_cons_self
    split at q
    · rename_i e' e1
      obtain ⟨e2, e3, e4⟩ := q
      cases hd : p x with
      | false =>
        rw [hd] at e3
        have := lc_enc enc p f xs acc hp ht (by omega)
        simp [lcL, hp, e1, e3, e2, this, hd]
      | true =>
        rw [hd] at e3
        obtain ⟨v, s2, e5, rfl, e6⟩ := e4 hd
        have := lc_enc enc p f xs (acc ++ [f x]) hp ht (by simp; omega)
        simp [lcL, hp, e1, e3, e5, e6, e2, this, hd]
        omega
    · exact q.elim
theorem mLc_enc {α : Type} {vs : List Nat} {mi : M R (List D)} {T : Tg} {mt me : M R Vr} (enc : α → D) (p : α → Bool) (f : α → D) (xs : List α) {s s1 : S R} (hi : mi s = some (xs.map enc, s1)) (hp : plainAt s1.e vs = true)
    (h : ∀ x ∈ xs, match bindT T (enc x) (wipeE s1.e vs) with
      | some e' => backE s1.e e' vs = s1.e ∧ mt { s1 with e := e' } = some (.sh (.bl (p x)), { s1 with e := e' }) ∧ (p x = true → Ev (me { s1 with e := e' }) (fun v s2 => s2 = { s1 with e := e' } ∧ esc (soft v) { s1 with e := e' } = some (f x, { s1 with e := e' })))
      | none => False) (hl : xs.length ≤ sizeLine) : mLc vs mi T mt me s = some (.tmp (.lst ((xs.filter p).map f)), s1) := by
  simp [mLc, hi, lc_enc enc p f xs [] hp h (by simpa using hl)]
theorem mLc_all {α : Type} {vs : List Nat} {mi : M R (List D)} {T : Tg} {me : M R Vr} (enc : α → D) (f : α → D) (xs : List α) {s s1 : S R} (hi : mi s = some (xs.map enc, s1)) (hp : plainAt s1.e vs = true)
    (h : ∀ x ∈ xs, match bindT T (enc x) (wipeE s1.e vs) with
      | some e' => backE s1.e e' vs = s1.e ∧ Ev (me { s1 with e := e' }) (fun v s2 => s2 = { s1 with e := e' } ∧ esc (soft v) { s1 with e := e' } = some (f x, { s1 with e := e' }))
      | none => False) (hl : xs.length ≤ sizeLine) : mLc vs mi T (mC (.bl true)) me s = some (.tmp (.lst (xs.map f)), s1) := by
  have := mLc_enc (mt := mC (.bl true)) (me := me) (T := T) (vs := vs) enc (fun _ => true) f xs hi hp (fun x hx => by
    have q := h x hx
    split at q
    · exact ⟨q.1, rfl, fun _ => q.2⟩
    · exact q.elim) hl
  rw [this, List.filter_eq_self.mpr (fun _ _ => rfl)]
end
end RW
namespace RW
open PySem L2
def dS (xs : List Str) : List D := xs.map D.str
theorem str_beq (x y : Str) : (x == y) = decide (x = y) := by
  by_cases h : x = y
  · subst h; simp
  · rw [decide_eq_false h]; exact beq_eq_false_iff_ne.mpr h
theorem atI_nat' {α : Type} {xs : List α} {k : Nat} (h : k < xs.length) : atI xs (k : Int) = some xs[k] := by
  unfold atI ixN
  rw [if_pos (by omega), if_pos (by omega)]
  simp [h]
theorem deq_str (x y : Str) : deqF 60 (.str x) (.str y) = some (decide (x = y)) := by
  simp [deqF, toV, eqV, str_beq]
theorem ne_str (x y : Str) : neD (.str x) (.str y) = some (.sh (.bl (!decide (x = y)))) := by
  simp [neD, deq_str]
theorem deq_int (x y : Int) : deqF 60 (.int x) (.int y) = some (decide (x = y)) := by
  simp only [deqF, toV, eqV]
  by_cases h : x = y
  · simp [h]
  · simp [h]
theorem eq_int' (x y : Int) : eqD (.int x) (.int y) = some (.sh (.bl (decide (x = y)))) := by simp [eqD, deq_int]
def dT {α : Type} (f : α → D) (t : List (Str × α)) : D := .dct false (t.map fun p => (.str p.1, f p.2))
def Draws {R : Type} (T : Fm R) : Prop := ∀ (r : R) (n : Int), 0 < n → n < 1073741824 → ∃ (k : Nat) (r' : R), (k : Int) < n ∧ T [.res, .int n] r = some (.sh (.int k), r')
section
variable {R : Type} {T : Fm R}
theorem pick_ok (hT : Draws T) (xs : List D) (h : 0 < xs.length) (h2 : xs.length < 1073741824) (r : R) : ∃ d r', d ∈ xs ∧ f__law_pick T [.res, .lst xs] r = some (.sh d, r') := by
  obtain ⟨k, r', hk, e⟩ := hT r xs.length (by omega) (by omega)
  have hk : k < xs.length := by omega
  refine ⟨xs[k], r', List.getElem_mem _, ?_⟩
  simp [f__law_pick, m__law_pick, fnM, fnR, ent, mSeq, mSet, mV, mC, mOp1, mOp2, mChain, mAnd, mOr, mNot, mIf, mArgs, escAll, esc, soft, pk, hard, put, puts, mHards, mPar, mTup, mLst, mDct0, mCall, mRest, mRt, mRtN, mNx, mEx, mIte, mMut, mPut, mIt, bindT, bindTs, isAtom, isLst, isDK, plainAt, wipeE, backE, mFor, mLc, mDc, mWhile, mBk, mCt, mNo, mSl, mNoP, mPt, mJoin, mRng1, mRng2, mZip, mCallK, pickL, mMeth, mProp, mMake, mFld, fnI, fnIR, mDisp, mPairs, o2I, gtI, geI, leI, mStar, mStarT, mStarL, mAugI, mIndex, lenD, idxD, idxS, e, atI_nat' hk]
end
end RW
namespace RW
open PySem L2
theorem sub_len {α : Type} [DecidableEq α] : ∀ {xs ys : List α}, xs.Nodup → (∀ x ∈ xs, x ∈ ys) → xs.length ≤ ys.length
  | [], ys, _, _ => Nat.zero_le _
  | x :: xs, ys, hn, hs => by
    rw [List.nodup_cons] at hn
    have hx := hs x List.mem_cons_self
    have := sub_len (xs := xs) (ys := ys.erase x) hn.2 (fun z hz => by
      have hne : z ≠ x := fun e => hn.1 (e ▸ hz)
      exact (List.mem_erase_of_ne hne).mpr (hs z (List.mem_cons_of_mem _ hz)))
    rw [List.length_erase_of_mem hx] at this
    have : 0 < ys.length := List.length_pos_of_mem hx
    simp only [List.length_cons]
    omega
section
variable {R : Type} {T : Fm R}
theorem rng1 {ma : M R Vr} {s s' : S R} {n : Nat} {i : Int} (h : ma s = some (.sh (.int i), s')) (hi : i = n) (hn : n ≤ 16777216) : mRng1 ma s = some (rangeOf n 0, s') := by
  subst hi
  simp [mRng1, h, hn]
end
end RW
namespace RW
open PySem L2
section
variable {R : Type} {T : Fm R}
abbrev Tab := List (Str × Option Str)
end
end RW
namespace RW
open PySem L2
structure Mod where
  rows : List (Str × (Tab × Tab))
  dots : List Str
  sources : List Str
  posts : List Str
end RW
namespace RW
open PySem L2
section
variable {R : Type} {T : Fm R}
def sq (b : Bool) (xs : List Str) : D := if b = true then .tup (dS xs) else .lst (dS xs)
end
end RW
namespace RW
open PySem L2
section
variable {R : Type} {T : Fm R}
structure WOkP (dots : List Str) (q : List (Option Str)) (y : Option Str) : Prop where
  nd : (q ++ [y]).Nodup
  sub : ∀ z ∈ q, z ∈ dots.map some
theorem WOkP.len {dots : List Str} {q : List (Option Str)} {y : Option Str} (h : WOkP dots q y) : q.length ≤ dots.length := by
  have hn : q.Nodup := (List.nodup_append.mp h.nd).1
  have := sub_len hn h.sub
  simpa using this
end
end RW
namespace RW
open PySem L2
theorem pow18 : iPow 10 18 = some (.int 1000000000000000000) := by
  unfold iPow
  rw [if_pos (by decide)]
  rfl
theorem mul_r (i : Int) {j : Int} (h : j.natAbs < 18446744073709551616) : iMul i j = some (.int (i * j)) := by unfold iMul; rw [if_pos (.inr h)]
theorem div_ok (i : Int) {j : Int} (h : 0 < j) (h2 : j.natAbs < 1073741824) : iDiv i j = some (.int (i / j)) := by unfold iDiv; rw [if_pos ⟨h, h2⟩]
theorem mod_ok (i : Int) {j : Int} (h : 0 < j) : iMod i j = some (.int (i % j)) := by unfold iMod; rw [if_pos h]
theorem pow5 {b : Int} (h : b.natAbs < 18446744073709551616) : iPow b 5 = some (.int (b ^ 5)) := by
  unfold iPow
  rw [if_pos ⟨by decide, by decide, by omega⟩]
  rfl
theorem mul_int (i : Int) {j : Int} (h : j.natAbs < 18446744073709551616) : mulD (.int i) (.int j) = some (.sh (.int (i * j))) := by simp [mulD, mul_r i h]
theorem begin_ok (nl : Nat) : ∀ ns : List Int, ns.length ≤ 63 → ∃ r, m_begin1 ⟨lawE nl ns none, ()⟩ = some (.nx, ⟨lawE nl ns (some ⟨drD r, true⟩), ()⟩) := by
  intro ns hns
  let ab : Int → Int := fun i => if i < 0 then -i else i
  let r : Dr := ⟨((ns.filter fun i => decide (1000000000000000000 ≤ ab i)).map fun i => ab i - 1000000000000000000), 0, ns.map ab, 0⟩
  refine ⟨r, ?_⟩
  have hb : f__law_begin (R := Unit) (fun _ _ => none) [.scr ns] () = some (.tmp (drD r), ()) := by
    unfold f__law_begin m__law_begin
    generalize hL1 : mLc _ _ _ (mOp2 _ _ _) _ = L1
    generalize hL2 : mLc _ _ _ _ _ = L2
    have eL1 : L1 ⟨[some ⟨.scr ns, false⟩, none, none], ()⟩ = some (.tmp (.lst ((ns.filter fun i => decide (1000000000000000000 ≤ ab i)).map fun i => .int (ab i - 1000000000000000000))), ⟨[some ⟨.scr ns, false⟩, none, none], ()⟩) := by
      rw [← hL1]
      refine mLc_enc D.int (fun i => decide (1000000000000000000 ≤ ab i)) (fun i => .int (ab i - 1000000000000000000)) ns ?_ (by rfl) (fun i hi => ?_) (by unfold sizeLine; omega)
      · simp [fnM, fnR, ent, mSeq, mSet, mV, mC, mOp1, mOp2, mChain, mAnd, mOr, mNot, mIf, mArgs, escAll, esc, soft, pk, hard, put, puts, mHards, mPar, mTup, mLst, mDct0, mCall, mRest, mRt, mRtN, mNx, mEx, mIte, mMut, mPut, mIt, bindT, bindTs, isAtom, isLst, isDK, plainAt, wipeE, backE, mFor, mLc, mDc, mWhile, mBk, mCt, mNo, mSl, mNoP, mPt, mJoin, mRng1, mRng2, mZip, mCallK, pickL, mMeth, mProp, mMake, mFld, fnI, fnIR, mDisp, mPairs, o2I, gtI, geI, leI, mStar, mStarT, mStarL, mAugI, mIndex, itemsOf]
      · simp [fnM, fnR, ent, mSeq, mSet, mV, mC, mOp1, mOp2, mChain, mAnd, mOr, mNot, mIf, mArgs, escAll, esc, soft, pk, hard, put, puts, mHards, mPar, mTup, mLst, mDct0, mCall, mRest, mRt, mRtN, mNx, mEx, mIte, mMut, mPut, mIt, bindT, bindTs, isAtom, isLst, isDK, plainAt, wipeE, backE, mFor, mLc, mDc, mWhile, mBk, mCt, mNo, mSl, mNoP, mPt, mJoin, mRng1, mRng2, mZip, mCallK, pickL, mMeth, mProp, mMake, mFld, fnI, fnIR, mDisp, mPairs, o2I, gtI, geI, leI, mStar, mStarT, mStarL, mAugI, mIndex, absD, pow18, ab]
    have eL2 : ∀ a1, L2 ⟨[some ⟨.scr ns, false⟩, a1, none], ()⟩ = some (.tmp (.lst (ns.map fun i => .int (ab i))), ⟨[some ⟨.scr ns, false⟩, a1, none], ()⟩) := fun a1 => by
      rw [← hL2]
      refine mLc_all D.int (fun i => .int (ab i)) ns ?_ (by rfl) (fun i hi => ?_) (by unfold sizeLine; omega)
      · simp [fnM, fnR, ent, mSeq, mSet, mV, mC, mOp1, mOp2, mChain, mAnd, mOr, mNot, mIf, mArgs, escAll, esc, soft, pk, hard, put, puts, mHards, mPar, mTup, mLst, mDct0, mCall, mRest, mRt, mRtN, mNx, mEx, mIte, mMut, mPut, mIt, bindT, bindTs, isAtom, isLst, isDK, plainAt, wipeE, backE, mFor, mLc, mDc, mWhile, mBk, mCt, mNo, mSl, mNoP, mPt, mJoin, mRng1, mRng2, mZip, mCallK, pickL, mMeth, mProp, mMake, mFld, fnI, fnIR, mDisp, mPairs, o2I, gtI, geI, leI, mStar, mStarT, mStarL, mAugI, mIndex, itemsOf]
      · simp [fnM, fnR, ent, mSeq, mSet, mV, mC, mOp1, mOp2, mChain, mAnd, mOr, mNot, mIf, mArgs, escAll, esc, soft, pk, hard, put, puts, mHards, mPar, mTup, mLst, mDct0, mCall, mRest, mRt, mRtN, mNx, mEx, mIte, mMut, mPut, mIt, bindT, bindTs, isAtom, isLst, isDK, plainAt, wipeE, backE, mFor, mLc, mDc, mWhile, mBk, mCt, mNo, mSl, mNoP, mPt, mJoin, mRng1, mRng2, mZip, mCallK, pickL, mMeth, mProp, mMake, mFld, fnI, fnIR, mDisp, mPairs, o2I, gtI, geI, leI, mStar, mStarT, mStarL, mAugI, mIndex, absD, ab]
    have hdisp : ∀ a b c d : D, List.foldl (fun acc (kv : Key × D) => putE acc (keyD kv.1) kv.2) [] [((Sum.inr "great" : Key), a), (Sum.inr "rest", b), (Sum.inr "cells", c), (Sum.inr "turn", d)] = [(.str "great", a), (.str "rest", b), (.str "cells", c), (.str "turn", d)] := fun a b c d => rfl
    simp only [List.foldl_cons, List.foldl_nil] at hdisp
    simp [fnM, fnR, ent, mSeq, mSet, mV, mC, mOp1, mOp2, mChain, mAnd, mOr, mNot, mIf, mArgs, escAll, esc, soft, pk, hard, put, puts, mHards, mPar, mTup, mLst, mDct0, mCall, mRest, mRt, mRtN, mNx, mEx, mIte, mMut, mPut, mIt, bindT, bindTs, isAtom, isLst, isDK, plainAt, wipeE, backE, mFor, mLc, mDc, mWhile, mBk, mCt, mNo, mSl, mNoP, mPt, mJoin, mRng1, mRng2, mZip, mCallK, pickL, mMeth, mProp, mMake, mFld, fnI, fnIR, mDisp, mPairs, o2I, gtI, geI, leI, mStar, mStarT, mStarL, mAugI, mIndex, eL1, eL2, kOf, keyD, drD, r, Function.comp_def]
    exact hdisp _ _ _ _
  unfold m_begin1 lawE
  simp [fnM, fnR, ent, mSeq, mSet, mV, mC, mOp1, mOp2, mChain, mAnd, mOr, mNot, mIf, mArgs, escAll, esc, soft, pk, hard, put, puts, mHards, mPar, mTup, mLst, mDct0, mCall, mRest, mRt, mRtN, mNx, mEx, mIte, mMut, mPut, mIt, bindT, bindTs, isAtom, isLst, isDK, plainAt, wipeE, backE, mFor, mLc, mDc, mWhile, mBk, mCt, mNo, mSl, mNoP, mPt, mJoin, mRng1, mRng2, mZip, mCallK, pickL, mMeth, mProp, mMake, mFld, fnI, fnIR, mDisp, mPairs, o2I, gtI, geI, leI, mStar, mStarT, mStarL, mAugI, mIndex, hb]
theorem blendR_ok (r : Dr) (t : Int) : Ev (m_blendR ⟨[some ⟨drD r, false⟩, some ⟨.int t, false⟩, none, none, none, none], ()⟩) (fun fl s => ∃ n : Int, fl = .rt (.sh (.int n))) := by
  unfold m_blendR
  generalize hF : mFor _ _ _ = F1
  simp [fnM, fnR, ent, mSeq, mSet, mV, mC, mOp1, mOp2, mChain, mAnd, mOr, mNot, mIf, mArgs, escAll, esc, soft, pk, hard, put, puts, mHards, mPar, mTup, mLst, mDct0, mCall, mRest, mRt, mRtN, mNx, mEx, mIte, mMut, mPut, mIt, bindT, bindTs, isAtom, isLst, isDK, plainAt, wipeE, backE, mFor, mLc, mDc, mWhile, mBk, mCt, mNo, mSl, mNoP, mPt, mJoin, mRng1, mRng2, mZip, mCallK, pickL, mMeth, mProp, mMake, mFld, fnI, fnIR, mDisp, mPairs, o2I, gtI, geI, leI, mStar, mStarT, mStarL, mAugI, mIndex]
  subst hF
  refine mFor_ev (ds := [.int 2147483629, .int 2147483587, .int 2147483579, .int 2147483563]) (s1 := ⟨[some ⟨drD r, false⟩, some ⟨.int t, false⟩, some ⟨.int 0, false⟩, none, none, none], ()⟩) (by simp [fnM, fnR, ent, mSeq, mSet, mV, mC, mOp1, mOp2, mChain, mAnd, mOr, mNot, mIf, mArgs, escAll, esc, soft, pk, hard, put, puts, mHards, mPar, mTup, mLst, mDct0, mCall, mRest, mRt, mRtN, mNx, mEx, mIte, mMut, mPut, mIt, bindT, bindTs, isAtom, isLst, isDK, plainAt, wipeE, backE, mFor, mLc, mDc, mWhile, mBk, mCt, mNo, mSl, mNoP, mPt, mJoin, mRng1, mRng2, mZip, mCallK, pickL, mMeth, mProp, mMake, mFld, fnI, fnIR, mDisp, mPairs, o2I, gtI, geI, leI, mStar, mStarT, mStarL, mAugI, mIndex, itemsOf]) ?_
  let I : List D → S Unit → Prop := fun ds s => (∀ d ∈ ds, ∃ p : Int, d = .int p ∧ 0 < p ∧ p < 2147483648) ∧ ∃ (f : Int) (a3 a4 a5 : Option Cell), s = ⟨[some ⟨drD r, false⟩, some ⟨.int t, false⟩, some ⟨.int f, false⟩, a3, a4, a5], ()⟩
  refine (for_ev I (fun fl s => fl = .nx ∧ I [] s) (fun d ds s hs => ?_) (fun s hs => ⟨rfl, hs⟩) _ _ ⟨?_, 0, none, none, none, rfl⟩).mono ?_
  · obtain ⟨hd, f, a3, a4, a5, rfl⟩ := hs
    obtain ⟨p, rfl, hp0, hp1⟩ := hd _ List.mem_cons_self
    have hds := fun d h => hd d (List.mem_cons_of_mem _ h)
    have hpn : p.natAbs < 18446744073709551616 := by omega
    generalize hG : mFor _ _ _ = F2
    have eG : ∀ b a5, 0 ≤ b → b < p → Ev (F2 ⟨[some ⟨drD r, false⟩, some ⟨.int t, false⟩, some ⟨.int f, false⟩, some ⟨.int p, false⟩, some ⟨.int b, false⟩, a5], ()⟩) (fun fl s => fl = .nx ∧ ∃ b a5, 0 ≤ b ∧ b < p ∧ s = ⟨[some ⟨drD r, false⟩, some ⟨.int t, false⟩, some ⟨.int f, false⟩, some ⟨.int p, false⟩, some ⟨.int b, false⟩, a5], ()⟩) := by
      intro b a5 hb0 hb1
      rw [← hG]
      have hix : idxD (drD r) (.str "cells") = some (.sh (.lst (r.cells.map .int))) := rfl
      refine mFor_ev (ds := r.cells.map D.int) (s1 := ⟨[some ⟨drD r, false⟩, some ⟨.int t, false⟩, some ⟨.int f, false⟩, some ⟨.int p, false⟩, some ⟨.int b, false⟩, a5], ()⟩) (by simp [fnM, fnR, ent, mSeq, mSet, mV, mC, mOp1, mOp2, mChain, mAnd, mOr, mNot, mIf, mArgs, escAll, esc, soft, pk, hard, put, puts, mHards, mPar, mTup, mLst, mDct0, mCall, mRest, mRt, mRtN, mNx, mEx, mIte, mMut, mPut, mIt, bindT, bindTs, isAtom, isLst, isDK, plainAt, wipeE, backE, mFor, mLc, mDc, mWhile, mBk, mCt, mNo, mSl, mNoP, mPt, mJoin, mRng1, mRng2, mZip, mCallK, pickL, mMeth, mProp, mMake, mFld, fnI, fnIR, mDisp, mPairs, o2I, gtI, geI, leI, mStar, mStarT, mStarL, mAugI, mIndex, hix, itemsOf]) ?_
      refine for_ev (fun ds s => (∃ cs : List Int, ds = cs.map D.int) ∧ ∃ b a5, 0 ≤ b ∧ b < p ∧ s = ⟨[some ⟨drD r, false⟩, some ⟨.int t, false⟩, some ⟨.int f, false⟩, some ⟨.int p, false⟩, some ⟨.int b, false⟩, a5], ()⟩) _ (fun d ds s hs => ?_) (fun s hs => ⟨rfl, hs.2⟩) _ _ ⟨⟨r.cells, rfl⟩, b, a5, hb0, hb1, rfl⟩
      obtain ⟨⟨cs, hcs⟩, b, a5, hb0, hb1, rfl⟩ := hs
      match cs, hcs with
      | c :: cs, hcs =>
        obtain ⟨rfl, rfl⟩ : d = .int c ∧ ds = cs.map D.int := List.cons.inj hcs
        simp [fnM, fnR, ent, mSeq, mSet, mV, mC, mOp1, mOp2, mChain, mAnd, mOr, mNot, mIf, mArgs, escAll, esc, soft, pk, hard, put, puts, mHards, mPar, mTup, mLst, mDct0, mCall, mRest, mRt, mRtN, mNx, mEx, mIte, mMut, mPut, mIt, bindT, bindTs, isAtom, isLst, isDK, plainAt, wipeE, backE, mFor, mLc, mDc, mWhile, mBk, mCt, mNo, mSl, mNoP, mPt, mJoin, mRng1, mRng2, mZip, mCallK, pickL, mMeth, mProp, mMake, mFld, fnI, fnIR, mDisp, mPairs, o2I, gtI, geI, leI, mStar, mStarT, mStarL, mAugI, mIndex, mul_int b (j := 48271) (by decide), addD, intD, mod_ok _ hp0]
        exact ⟨⟨cs, rfl⟩, Int.emod_nonneg _ (by omega), Int.emod_lt_of_pos _ hp0⟩
    obtain ⟨fl, s, e, rfl, b, a5', hb0, hb1, rfl⟩ := eG ((t * 69621 + p / 7) % p) a5 (Int.emod_nonneg _ (by omega)) (Int.emod_lt_of_pos _ hp0)
    simp [fnM, fnR, ent, mSeq, mSet, mV, mC, mOp1, mOp2, mChain, mAnd, mOr, mNot, mIf, mArgs, escAll, esc, soft, pk, hard, put, puts, mHards, mPar, mTup, mLst, mDct0, mCall, mRest, mRt, mRtN, mNx, mEx, mIte, mMut, mPut, mIt, bindT, bindTs, isAtom, isLst, isDK, plainAt, wipeE, backE, mFor, mLc, mDc, mWhile, mBk, mCt, mNo, mSl, mNoP, mPt, mJoin, mRng1, mRng2, mZip, mCallK, pickL, mMeth, mProp, mMake, mFld, fnI, fnIR, mDisp, mPairs, o2I, gtI, geI, leI, mStar, mStarT, mStarL, mAugI, mIndex, mul_int t (j := 69621) (by decide), div_ok p (j := 7) (by decide) (by decide), addD, intD, mod_ok _ hp0, e, mul_int f (j := 2147483647) (by decide), pow5 (b := b) (by omega)]
    exact ⟨hds, _, _, _, _, rfl⟩
  · intro d hd
    simp only [List.mem_cons, List.not_mem_nil, or_false] at hd
    rcases hd with rfl | rfl | rfl | rfl
    · exact ⟨_, rfl, by decide, by decide⟩
    · exact ⟨_, rfl, by decide, by decide⟩
    · exact ⟨_, rfl, by decide, by decide⟩
    · exact ⟨_, rfl, by decide, by decide⟩
  · rintro fl s ⟨rfl, _, f, a3, a4, a5, rfl⟩
    simp
theorem blend_ok (r : Dr) : ∃ n r', f_blend [.res] r = some (.sh (.int n), r') := by
  obtain ⟨fl, s, e, n, rfl⟩ := blendR_ok { r with turn := r.turn + 1 } (r.turn + 1)
  refine ⟨n, { r with turn := r.turn + 1 }, ?_⟩
  unfold f_blend m_blend
  generalize hB : m_blendR = B at e
  simp [fnM, fnR, ent, mSeq, mSet, mV, mC, mOp1, mOp2, mChain, mAnd, mOr, mNot, mIf, mArgs, escAll, esc, soft, pk, hard, put, puts, mHards, mPar, mTup, mLst, mDct0, mCall, mRest, mRt, mRtN, mNx, mEx, mIte, mMut, mPut, mIt, bindT, bindTs, isAtom, isLst, isDK, plainAt, wipeE, backE, mFor, mLc, mDc, mWhile, mBk, mCt, mNo, mSl, mNoP, mPt, mJoin, mRng1, mRng2, mZip, mCallK, pickL, mMeth, mProp, mMake, mFld, fnI, fnIR, mDisp, mPairs, o2I, gtI, geI, leI, mStar, mStarT, mStarL, mAugI, mIndex, mRG, isRes, addD, mRP, mFrz, frzC, e]
theorem take_ok (b : Bool) : Draws (f_take b) := by
  intro r n h1 h2
  unfold f_take m_take
  generalize hS1 : mIte (mAnd _ _) _ _ = S1
  generalize hS2 : mIte _ _ _ = S2
  have e1 : ∃ r1, S1 ⟨[some ⟨.res, false⟩, some ⟨.int n, false⟩, none], r⟩ = some (.nx, ⟨[some ⟨.res, false⟩, some ⟨.int n, false⟩, none], r1⟩) := by
    rw [← hS1]
    by_cases h : r.rest = 0
    · cases hg : r.great with
      | nil =>
        refine ⟨r, ?_⟩
        simp [fnM, fnR, ent, mSeq, mSet, mV, mC, mOp1, mOp2, mChain, mAnd, mOr, mNot, mIf, mArgs, escAll, esc, soft, pk, hard, put, puts, mHards, mPar, mTup, mLst, mDct0, mCall, mRest, mRt, mRtN, mNx, mEx, mIte, mMut, mPut, mIt, bindT, bindTs, isAtom, isLst, isDK, plainAt, wipeE, backE, mFor, mLc, mDc, mWhile, mBk, mCt, mNo, mSl, mNoP, mPt, mJoin, mRng1, mRng2, mZip, mCallK, pickL, mMeth, mProp, mMake, mFld, fnI, fnIR, mDisp, mPairs, o2I, gtI, geI, leI, mStar, mStarT, mStarL, mAugI, mIndex, mRG, isRes, h, eq_int', mRB, hg]
      | cons g gs =>
        refine ⟨{ r with great := gs, cells := if b then gs else r.cells, rest := g }, ?_⟩
        simp [fnM, fnR, ent, mSeq, mSet, mV, mC, mOp1, mOp2, mChain, mAnd, mOr, mNot, mIf, mArgs, escAll, esc, soft, pk, hard, put, puts, mHards, mPar, mTup, mLst, mDct0, mCall, mRest, mRt, mRtN, mNx, mEx, mIte, mMut, mPut, mIt, bindT, bindTs, isAtom, isLst, isDK, plainAt, wipeE, backE, mFor, mLc, mDc, mWhile, mBk, mCt, mNo, mSl, mNoP, mPt, mJoin, mRng1, mRng2, mZip, mCallK, pickL, mMeth, mProp, mMake, mFld, fnI, fnIR, mDisp, mPairs, o2I, gtI, geI, leI, mStar, mStarT, mStarL, mAugI, mIndex, mRG, isRes, h, eq_int', mRB, hg, mRP, mRPop]
    · refine ⟨r, ?_⟩
      simp [fnM, fnR, ent, mSeq, mSet, mV, mC, mOp1, mOp2, mChain, mAnd, mOr, mNot, mIf, mArgs, escAll, esc, soft, pk, hard, put, puts, mHards, mPar, mTup, mLst, mDct0, mCall, mRest, mRt, mRtN, mNx, mEx, mIte, mMut, mPut, mIt, bindT, bindTs, isAtom, isLst, isDK, plainAt, wipeE, backE, mFor, mLc, mDc, mWhile, mBk, mCt, mNo, mSl, mNoP, mPt, mJoin, mRng1, mRng2, mZip, mCallK, pickL, mMeth, mProp, mMake, mFld, fnI, fnIR, mDisp, mPairs, o2I, gtI, geI, leI, mStar, mStarT, mStarL, mAugI, mIndex, mRG, isRes, h, eq_int']
  obtain ⟨r1, e1⟩ := e1
  have e2 : ∃ r2, S2 ⟨[some ⟨.res, false⟩, some ⟨.int n, false⟩, none], r1⟩ = some (.nx, ⟨[some ⟨.res, false⟩, some ⟨.int n, false⟩, none], r2⟩) := by
    rw [← hS2]
    by_cases h : r1.rest = 0
    · obtain ⟨m, r', e⟩ := blend_ok r1
      refine ⟨{ r' with rest := m }, ?_⟩
      simp [fnM, fnR, ent, mSeq, mSet, mV, mC, mOp1, mOp2, mChain, mAnd, mOr, mNot, mIf, mArgs, escAll, esc, soft, pk, hard, put, puts, mHards, mPar, mTup, mLst, mDct0, mCall, mRest, mRt, mRtN, mNx, mEx, mIte, mMut, mPut, mIt, bindT, bindTs, isAtom, isLst, isDK, plainAt, wipeE, backE, mFor, mLc, mDc, mWhile, mBk, mCt, mNo, mSl, mNoP, mPt, mJoin, mRng1, mRng2, mZip, mCallK, pickL, mMeth, mProp, mMake, mFld, fnI, fnIR, mDisp, mPairs, o2I, gtI, geI, leI, mStar, mStarT, mStarL, mAugI, mIndex, mRG, isRes, h, eq_int', mRP, e]
    · refine ⟨r1, ?_⟩
      simp [fnM, fnR, ent, mSeq, mSet, mV, mC, mOp1, mOp2, mChain, mAnd, mOr, mNot, mIf, mArgs, escAll, esc, soft, pk, hard, put, puts, mHards, mPar, mTup, mLst, mDct0, mCall, mRest, mRt, mRtN, mNx, mEx, mIte, mMut, mPut, mIt, bindT, bindTs, isAtom, isLst, isDK, plainAt, wipeE, backE, mFor, mLc, mDc, mWhile, mBk, mCt, mNo, mSl, mNoP, mPt, mJoin, mRng1, mRng2, mZip, mCallK, pickL, mMeth, mProp, mMake, mFld, fnI, fnIR, mDisp, mPairs, o2I, gtI, geI, leI, mStar, mStarT, mStarL, mAugI, mIndex, mRG, isRes, h, eq_int']
  obtain ⟨r2, e2⟩ := e2
  have hk : ((r2.rest % n).toNat : Int) = r2.rest % n := Int.toNat_of_nonneg (Int.emod_nonneg _ (by omega))
  refine ⟨(r2.rest % n).toNat, { r2 with rest := r2.rest / n }, by rw [hk]; exact Int.emod_lt_of_pos _ h1, ?_⟩
  rw [hk]
  simp [fnM, fnR, ent, mSeq, mSet, mV, mC, mOp1, mOp2, mChain, mAnd, mOr, mNot, mIf, mArgs, escAll, esc, soft, pk, hard, put, puts, mHards, mPar, mTup, mLst, mDct0, mCall, mRest, mRt, mRtN, mNx, mEx, mIte, mMut, mPut, mIt, bindT, bindTs, isAtom, isLst, isDK, plainAt, wipeE, backE, mFor, mLc, mDc, mWhile, mBk, mCt, mNo, mSl, mNoP, mPt, mJoin, mRng1, mRng2, mZip, mCallK, pickL, mMeth, mProp, mMake, mFld, fnI, fnIR, mDisp, mPairs, o2I, gtI, geI, leI, mStar, mStarT, mStarL, mAugI, mIndex, e1, e2, mRG, isRes, intD, mod_ok _ h1, mRP, div_ok _ h1 (show n.natAbs < 1073741824 by omega)]
end RW
namespace RW
open PySem L2
section
variable {R : Type} (T : Fm R) (r : R) (page : Str) (item : D)
def eT (page : Str) (c : Nat) : D := .err c [("args", .str page)]
def eD (item : D) (c : Nat) (f : Str) : D := .err c [(f, item)]
def pl01 : List (Int × Nat) := [(3, 2004), (5, 2006), (6, 2007), (10, 2011), (13, 2014), (14, 2015), (16, 2017), (99, 2000)]
def fl01 : List (Int × Nat × Str) := [(0, 2001, "part"), (0, 2001, "part"), (4, 2005, "part"), (4, 2005, "part"), (1, 2002, "goal"), (1, 2002, "goal"), (2, 2003, "node"), (2, 2003, "node"), (12, 2013, "node"), (12, 2013, "node"),
  (7, 2008, "at"), (7, 2008, "at"), (9, 2010, "at"), (9, 2010, "at"), (17, 2018, "at"), (17, 2018, "at"), (8, 2009, "number"), (8, 2009, "number"), (11, 2012, "wish"), (11, 2012, "wish"), (15, 2016, "packet"), (15, 2016, "packet"), (18, 2019, "line"), (18, 2019, "line")]
theorem plain_ok : f__law_plain T [.str page] r = some (.tmp (.lst (pl01.map fun p => .tup [.int p.1, eT page p.2])), r) := by kernel_rfl
theorem fields_ok : f__law_with_fields T [item] r = some (.tmp (.lst (fl01.map fun p => .tup [.int p.1, eD item p.2.1 p.2.2, item])), r) := by kernel_rfl
theorem marks0 : f__law_marks_2 T [eT page 2000] r = some (.tmp (.lst (List.replicate 19 (.bl false))), r) := by kernel_rfl
theorem aloneT : ∀ p ∈ pl01, (p.1 = 99) ∨ f__law_alone T [eT page p.2, .int p.1] r = some (.sh (.bl true), r) := by
  intro p hp
  unfold pl01 at hp
  simp only [List.mem_cons, List.not_mem_nil, or_false] at hp
  rcases hp with rfl | rfl | rfl | rfl | rfl | rfl | rfl | rfl
  · exact .inr (by kernel_rfl)
  · exact .inr (by kernel_rfl)
  · exact .inr (by kernel_rfl)
  · exact .inr (by kernel_rfl)
  · exact .inr (by kernel_rfl)
  · exact .inr (by kernel_rfl)
  · exact .inr (by kernel_rfl)
  · exact .inl rfl
theorem aloneD : ∀ p ∈ fl01, f__law_alone T [eD item p.2.1 p.2.2, .int p.1] r = some (.sh (.bl true), r) := by
  intro p hp
  unfold fl01 at hp
  simp only [List.mem_cons, List.not_mem_nil, or_false] at hp
  rcases hp with rfl | rfl | rfl | rfl | rfl | rfl | rfl | rfl | rfl | rfl | rfl | rfl | rfl | rfl | rfl | rfl | rfl | rfl | rfl | rfl | rfl | rfl | rfl | rfl <;> kernel_rfl
theorem strT : ∀ p ∈ pl01, strEt [2000, 2004, 2006, 2007, 2011, 2014, 2015, 2017] (eT page p.2) = some (.sh (.str page)) := by
  intro p hp
  unfold pl01 at hp
  simp only [List.mem_cons, List.not_mem_nil, or_false] at hp
  rcases hp with rfl | rfl | rfl | rfl | rfl | rfl | rfl | rfl <;> kernel_rfl
theorem ltT : ∀ p ∈ pl01, ltD (.int p.1) (.int 19) = some (.sh (.bl (decide (p.1 ≠ 99)))) := by
  intro p hp
  unfold pl01 at hp
  simp only [List.mem_cons, List.not_mem_nil, or_false] at hp
  rcases hp with rfl | rfl | rfl | rfl | rfl | rfl | rfl | rfl <;> kernel_rfl
end
def it01 : List D := [.int 0, .int 1, .non, .str "tables", .str "a", .tup [.int 1, .non], .tup [.tup [.int 0, .bl true]], .lst [.int 3], .int 1000000000000]
theorem repr01 : ∀ d ∈ it01, ∃ x, reprD d = some (.sh (.str x)) := by
  have h : it01.all (fun d => (reprS d).isSome) = true := by decide +kernel
  intro d hd
  have q := List.all_eq_true.mp h d hd
  obtain ⟨x, hx⟩ := Option.isSome_iff_exists.mp q
  exact ⟨x, by unfold reprD; rw [hx]; rfl⟩
theorem pow12 : iPow 10 12 = some (.int 1000000000000) := by
  unfold iPow
  rw [if_pos (by decide)]
  rfl
theorem mul19 : mulD (.lst [.bl false]) (.int 19) = some (.tmp (.lst (List.replicate 19 (.bl false)))) := by kernel_rfl
theorem ne19 : neD (.lst (List.replicate 19 (.bl false))) (.lst (List.replicate 19 (.bl false))) = some (.sh (.bl false)) := by kernel_rfl
theorem isV (page : Str) : isiE (etab [(2000, true), (2001, true), (2002, true), (2003, true), (2004, true), (2005, true), (2006, true), (2007, true), (2008, true), (2009, true), (2010, true), (2011, true), (2012, true), (2013, true), (2014, true), (2015, true), (2016, true), (2017, true), (2018, true), (2019, true)]) (eT page 2000) = some (.sh (.bl true)) := by kernel_rfl
theorem for_S1 {R : Type} {Tt : Tg} {mb : MS R} (P : S R → Prop) (ds : List D) (h : ∀ d ∈ ds, ∀ s, P s → match bindT Tt d s.e with
      | some e' => Ev (mb { s with e := e' }) (fun fl s' => fl = .nx ∧ P s')
      | none => False) (s : S R) (hs : P s) : Ev (forL Tt mb ds s) (fun fl s' => fl = .nx ∧ P s') := by
  refine for_ev (fun l s => (∀ d ∈ l, d ∈ ds) ∧ P s) (fun fl s' => fl = .nx ∧ P s') (fun d l s hI => ?_) (fun s hI => ⟨rfl, hI.2⟩) ds s ⟨fun d hd => hd, hs⟩
  have q := h d (hI.1 d List.mem_cons_self) s hI.2
  split at q
  · rename_i e' eb
    try rw [eb]
    refine q.mono fun fl s' hq => ?_
    obtain ⟨rfl, hq⟩ := hq
    exact ⟨fun d hd => hI.1 d (List.mem_cons_of_mem _ hd), hq⟩
  · exact q.elim
theorem law_k01 : ∀ (ns : List Int) (b : Bool) (r : Dr), ns.length ≤ 63 → ∃ s', m_law_k01 (f_take b) ⟨lawE 7 ns (some ⟨.res, false⟩), r⟩ = some (.rt (.sh (.bl true)), s') := by
  intro ns b r0 hns
  have hT := take_ok b
  generalize f_take b = T at hT
  suffices h : Ev (m_law_k01 T ⟨lawE 7 ns (some ⟨.res, false⟩), r0⟩) (fun fl s => fl = .rt (.sh (.bl true))) by
    obtain ⟨fl, s, e, rfl⟩ := h
    exact ⟨s, e⟩
  unfold m_law_k01 lawE
  generalize hF : mFor (mRng1 _) _ _ = F0
  simp [fnM, fnR, ent, mSeq, mSet, mV, mC, mOp1, mOp2, mChain, mAnd, mOr, mNot, mIf, mArgs, escAll, esc, soft, pk, hard, put, puts, mHards, mPar, mTup, mLst, mDct0, mCall, mRest, mRt, mRtN, mNx, mEx, mIte, mMut, mPut, mIt, bindT, bindTs, isAtom, isLst, isDK, plainAt, wipeE, backE, mFor, mLc, mDc, mWhile, mBk, mCt, mNo, mSl, mNoP, mPt, mJoin, mRng1, mRng2, mZip, mCallK, pickL, mMeth, mProp, mMake, mFld, fnI, fnIR, mDisp, mPairs, o2I, gtI, geI, leI, mStar, mStarT, mStarL, mAugI, mIndex, List.replicate]
  subst hF
  let P : S Dr → Prop := fun s => ∃ (a2 a3 a4 a5 a6 a7 a8 : Option Cell) (r' : Dr), s = ⟨[some ⟨.scr ns, false⟩, some ⟨.res, false⟩, a2, a3, a4, a5, a6, a7, a8], r'⟩
  let m : Nat := 1 + min 3 ns.length
  have hm : m ≤ 4 := by show 1 + min 3 ns.length ≤ 4; omega
  have hrg : mRng1 (mOp2 addD (mC (.int 1)) (mOp2 min2 (mOp1 lenD (mV 0)) (mC (.int 3)))) (⟨[some ⟨.scr ns, false⟩, some ⟨.res, false⟩, none, none, none, none, none, none, none], r0⟩ : S Dr) = some (rangeOf m 0, ⟨[some ⟨.scr ns, false⟩, some ⟨.res, false⟩, none, none, none, none, none, none, none], r0⟩) := by
    have hl : lenD (.scr ns) = some (.sh (.int ns.length)) := rfl
    have h1 : min2 (.int ns.length) (.int 3) = some (.sh (.int (min 3 ns.length : Nat))) := by
      show some (Vr.sh (D.int (if (3 : Int) < ns.length then (3 : Int) else ns.length))) = _
      congr 3
      split <;> omega
    have h2 : addD (.int 1) (.int (min 3 ns.length : Nat)) = some (.sh (.int (m : Nat))) := by
      show some (Vr.sh (D.int (1 + ((min 3 ns.length : Nat) : Int)))) = _
      congr 3
    refine rng1 (i := (m : Int)) ?_ rfl (by omega)
    generalize hm : m = m' at *
    generalize hk : min 3 ns.length = k' at *
    simp only [mOp2, mC, mOp1, mV, List.getElem?_cons_zero, Option.bind_some, soft, pk, if_false, Bool.false_eq_true, hl, Option.map_some, h1, h2]
  refine (mFor_ev hrg (for_S1 P (rangeOf m 0) (fun d hd s hs => ?_) _ ⟨none, none, none, none, none, none, none, r0, rfl⟩)).mono ?_
  · obtain ⟨a2, a3, a4, a5, a6, a7, a8, r', rfl⟩ := hs
    obtain ⟨d1, r1, hd1, e1⟩ := pick_ok hT [.str "", .str "a", .str "no node", .str "round"] (by decide) (by decide) r'
    obtain ⟨page, rfl⟩ : ∃ p, d1 = .str p := by
      simp only [List.mem_cons, List.not_mem_nil, or_false] at hd1
      rcases hd1 with rfl | rfl | rfl | rfl <;> exact ⟨_, rfl⟩
    obtain ⟨item, r2, hi, e2⟩ := pick_ok hT it01 (by decide) (by decide) r1
    obtain ⟨xr, hxr⟩ := repr01 item hi
    unfold it01 at e2
    have q1 : ∀ mb, mb = mIte (mOr (mOp2 neD (mOp1 (strEt [2000, 2004, 2006, 2007, 2011, 2014, 2015, 2017]) (mV 6)) (mV 3)) (mAnd (mOp2 ltD (mV 5) (mC (.int 19))) (mNot (mCall (f__law_alone T) (mArgs [mV 6, mV 5]))))) (mRt (mC (.bl false))) (mNx) → ∃ b5 b6, mFor (mIt itemsOf (mCall (f__law_plain T) (mArgs [mV 3]))) (.tp [.nm 5, .nm 6]) mb (⟨[some ⟨.scr ns, false⟩, some ⟨.res, false⟩, some ⟨d, false⟩, some ⟨.str page, false⟩, some ⟨item, false⟩, a5, a6, a7, a8], r2⟩ : S Dr) = some (.nx, ⟨[some ⟨.scr ns, false⟩, some ⟨.res, false⟩, some ⟨d, false⟩, some ⟨.str page, false⟩, some ⟨item, false⟩, b5, b6, a7, a8], r2⟩) := by
      intro mb hmb
      let P1 : S Dr → Prop := fun s => ∃ b5 b6, s = ⟨[some ⟨.scr ns, false⟩, some ⟨.res, false⟩, some ⟨d, false⟩, some ⟨.str page, false⟩, some ⟨item, false⟩, b5, b6, a7, a8], r2⟩
      have hit : mIt itemsOf (mCall (f__law_plain T) (mArgs [mV 3])) (⟨[some ⟨.scr ns, false⟩, some ⟨.res, false⟩, some ⟨d, false⟩, some ⟨.str page, false⟩, some ⟨item, false⟩, a5, a6, a7, a8], r2⟩ : S Dr) = some (pl01.map fun p => .tup [.int p.1, eT page p.2], ⟨[some ⟨.scr ns, false⟩, some ⟨.res, false⟩, some ⟨d, false⟩, some ⟨.str page, false⟩, some ⟨item, false⟩, a5, a6, a7, a8], r2⟩) := by
        have e3 := plain_ok T r2 page
        generalize (pl01.map fun p => D.tup [.int p.1, eT page p.2]) = L at e3 ⊢
        simp [fnM, fnR, ent, mSeq, mSet, mV, mC, mOp1, mOp2, mChain, mAnd, mOr, mNot, mIf, mArgs, escAll, esc, soft, pk, hard, put, puts, mHards, mPar, mTup, mLst, mDct0, mCall, mRest, mRt, mRtN, mNx, mEx, mIte, mMut, mPut, mIt, bindT, bindTs, isAtom, isLst, isDK, plainAt, wipeE, backE, mFor, mLc, mDc, mWhile, mBk, mCt, mNo, mSl, mNoP, mPt, mJoin, mRng1, mRng2, mZip, mCallK, pickL, mMeth, mProp, mMake, mFld, fnI, fnIR, mDisp, mPairs, o2I, gtI, geI, leI, mStar, mStarT, mStarL, mAugI, mIndex, e3, mIt, itemsOf]
      obtain ⟨fl, s', e, rfl, b5, b6, rfl⟩ := mFor_ev (mb := mb) (T := .tp [.nm 5, .nm 6]) hit (for_S1 P1 _ (fun x hx s hs => by
        obtain ⟨b5, b6, rfl⟩ := hs
        obtain ⟨p, hp, rfl⟩ := List.mem_map.mp hx
        have w1 := strT page p hp
        have w2 := ltT p hp
        have w3 := aloneT T r2 page p hp
        have hP : P1 ⟨[some ⟨.scr ns, false⟩, some ⟨.res, false⟩, some ⟨d, false⟩, some ⟨.str page, false⟩, some ⟨item, false⟩, some ⟨.int p.1, false⟩, some ⟨eT page p.2, false⟩, a7, a8], r2⟩ := ⟨_, _, rfl⟩
        generalize eT page p.2 = E at w1 w3 hP ⊢
        clear_value P1
        subst hmb
        generalize p.1 = i at w2 w3 hP ⊢
        rcases w3 with w3 | w3
        · subst w3
          have w2 : ltD (.int 99) (.int 19) = some (.sh (.bl false)) := by rw [w2]; simp
          simp [fnM, fnR, ent, mSeq, mSet, mV, mC, mOp1, mOp2, mChain, mAnd, mOr, mNot, mIf, mArgs, escAll, esc, soft, pk, hard, put, puts, mHards, mPar, mTup, mLst, mDct0, mCall, mRest, mRt, mRtN, mNx, mEx, mIte, mMut, mPut, mIt, bindT, bindTs, isAtom, isLst, isDK, plainAt, wipeE, backE, mFor, mLc, mDc, mWhile, mBk, mCt, mNo, mSl, mNoP, mPt, mJoin, mRng1, mRng2, mZip, mCallK, pickL, mMeth, mProp, mMake, mFld, fnI, fnIR, mDisp, mPairs, o2I, gtI, geI, leI, mStar, mStarT, mStarL, mAugI, mIndex, bindT, bindTs, w1, w2, ne_str]
          exact hP
        · by_cases h9 : i = 99
          · subst h9
            have w2 : ltD (.int 99) (.int 19) = some (.sh (.bl false)) := by rw [w2]; simp
            simp [fnM, fnR, ent, mSeq, mSet, mV, mC, mOp1, mOp2, mChain, mAnd, mOr, mNot, mIf, mArgs, escAll, esc, soft, pk, hard, put, puts, mHards, mPar, mTup, mLst, mDct0, mCall, mRest, mRt, mRtN, mNx, mEx, mIte, mMut, mPut, mIt, bindT, bindTs, isAtom, isLst, isDK, plainAt, wipeE, backE, mFor, mLc, mDc, mWhile, mBk, mCt, mNo, mSl, mNoP, mPt, mJoin, mRng1, mRng2, mZip, mCallK, pickL, mMeth, mProp, mMake, mFld, fnI, fnIR, mDisp, mPairs, o2I, gtI, geI, leI, mStar, mStarT, mStarL, mAugI, mIndex, bindT, bindTs, w1, w2, ne_str]
            exact hP
          · have w2 : ltD (.int i) (.int 19) = some (.sh (.bl true)) := by rw [w2]; simp [h9]
            simp [fnM, fnR, ent, mSeq, mSet, mV, mC, mOp1, mOp2, mChain, mAnd, mOr, mNot, mIf, mArgs, escAll, esc, soft, pk, hard, put, puts, mHards, mPar, mTup, mLst, mDct0, mCall, mRest, mRt, mRtN, mNx, mEx, mIte, mMut, mPut, mIt, bindT, bindTs, isAtom, isLst, isDK, plainAt, wipeE, backE, mFor, mLc, mDc, mWhile, mBk, mCt, mNo, mSl, mNoP, mPt, mJoin, mRng1, mRng2, mZip, mCallK, pickL, mMeth, mProp, mMake, mFld, fnI, fnIR, mDisp, mPairs, o2I, gtI, geI, leI, mStar, mStarT, mStarL, mAugI, mIndex, bindT, bindTs, w1, w2, w3, ne_str]
            exact hP) _ ⟨a5, a6, rfl⟩)
      exact ⟨b5, b6, e⟩
    have q2 : ∀ mb a5 a6, mb = mIte (mOr (mNot (mCall (f__law_alone T) (mArgs [mV 6, mV 5]))) (mOp2 neD (mOp1 reprD (mV 7)) (mOp1 reprD (mV 4)))) (mRt (mC (.bl false))) (mNx) → ∃ b5 b6 b7, mFor (mIt itemsOf (mCall (f__law_with_fields T) (mArgs [mV 4]))) (.tp [.nm 5, .nm 6, .nm 7]) mb (⟨[some ⟨.scr ns, false⟩, some ⟨.res, false⟩, some ⟨d, false⟩, some ⟨.str page, false⟩, some ⟨item, false⟩, a5, a6, a7, a8], r2⟩ : S Dr) = some (.nx, ⟨[some ⟨.scr ns, false⟩, some ⟨.res, false⟩, some ⟨d, false⟩, some ⟨.str page, false⟩, some ⟨item, false⟩, b5, b6, b7, a8], r2⟩) := by
      intro mb a5 a6 hmb
      let P1 : S Dr → Prop := fun s => ∃ b5 b6 b7, s = ⟨[some ⟨.scr ns, false⟩, some ⟨.res, false⟩, some ⟨d, false⟩, some ⟨.str page, false⟩, some ⟨item, false⟩, b5, b6, b7, a8], r2⟩
      have hit : mIt itemsOf (mCall (f__law_with_fields T) (mArgs [mV 4])) (⟨[some ⟨.scr ns, false⟩, some ⟨.res, false⟩, some ⟨d, false⟩, some ⟨.str page, false⟩, some ⟨item, false⟩, a5, a6, a7, a8], r2⟩ : S Dr) = some (fl01.map fun p => .tup [.int p.1, eD item p.2.1 p.2.2, item], ⟨[some ⟨.scr ns, false⟩, some ⟨.res, false⟩, some ⟨d, false⟩, some ⟨.str page, false⟩, some ⟨item, false⟩, a5, a6, a7, a8], r2⟩) := by
        have e3 := fields_ok T r2 item
        generalize (fl01.map fun p => D.tup [.int p.1, eD item p.2.1 p.2.2, item]) = L at e3 ⊢
        simp [fnM, fnR, ent, mSeq, mSet, mV, mC, mOp1, mOp2, mChain, mAnd, mOr, mNot, mIf, mArgs, escAll, esc, soft, pk, hard, put, puts, mHards, mPar, mTup, mLst, mDct0, mCall, mRest, mRt, mRtN, mNx, mEx, mIte, mMut, mPut, mIt, bindT, bindTs, isAtom, isLst, isDK, plainAt, wipeE, backE, mFor, mLc, mDc, mWhile, mBk, mCt, mNo, mSl, mNoP, mPt, mJoin, mRng1, mRng2, mZip, mCallK, pickL, mMeth, mProp, mMake, mFld, fnI, fnIR, mDisp, mPairs, o2I, gtI, geI, leI, mStar, mStarT, mStarL, mAugI, mIndex, e3, mIt, itemsOf]
      obtain ⟨fl, s', e, rfl, b5, b6, b7, rfl⟩ := mFor_ev (mb := mb) (T := .tp [.nm 5, .nm 6, .nm 7]) hit (for_S1 P1 _ (fun x hx s hs => by
        obtain ⟨b5, b6, b7, rfl⟩ := hs
        obtain ⟨p, hp, rfl⟩ := List.mem_map.mp hx
        have w3 := aloneD T r2 item p hp
        have hP : P1 ⟨[some ⟨.scr ns, false⟩, some ⟨.res, false⟩, some ⟨d, false⟩, some ⟨.str page, false⟩, some ⟨item, false⟩, some ⟨.int p.1, false⟩, some ⟨eD item p.2.1 p.2.2, false⟩, some ⟨item, false⟩, a8], r2⟩ := ⟨_, _, _, rfl⟩
        generalize eD item p.2.1 p.2.2 = E at w3 hP ⊢
        clear_value P1
        subst hmb
        simp [fnM, fnR, ent, mSeq, mSet, mV, mC, mOp1, mOp2, mChain, mAnd, mOr, mNot, mIf, mArgs, escAll, esc, soft, pk, hard, put, puts, mHards, mPar, mTup, mLst, mDct0, mCall, mRest, mRt, mRtN, mNx, mEx, mIte, mMut, mPut, mIt, bindT, bindTs, isAtom, isLst, isDK, plainAt, wipeE, backE, mFor, mLc, mDc, mWhile, mBk, mCt, mNo, mSl, mNoP, mPt, mJoin, mRng1, mRng2, mZip, mCallK, pickL, mMeth, mProp, mMake, mFld, fnI, fnIR, mDisp, mPairs, o2I, gtI, geI, leI, mStar, mStarT, mStarL, mAugI, mIndex, bindT, bindTs, w3, hxr, ne_str]
        exact hP) _ ⟨a5, a6, a7, rfl⟩)
      exact ⟨b5, b6, b7, e⟩
    generalize hG : mSet 4 _ = G4
    have e4 : G4 (⟨[some ⟨.scr ns, false⟩, some ⟨.res, false⟩, some ⟨d, false⟩, some ⟨.str page, false⟩, a4, a5, a6, a7, a8], r1⟩ : S Dr) = some (.nx, ⟨[some ⟨.scr ns, false⟩, some ⟨.res, false⟩, some ⟨d, false⟩, some ⟨.str page, false⟩, some ⟨item, false⟩, a5, a6, a7, a8], r2⟩) := by
      subst hG
      unfold it01 at hi
      simp only [List.mem_cons, List.not_mem_nil, or_false] at hi
      clear q1 q2 hxr
      rcases hi with rfl | rfl | rfl | rfl | rfl | rfl | rfl | rfl | rfl <;> simp [fnM, fnR, ent, mSeq, mSet, mV, mC, mOp1, mOp2, mChain, mAnd, mOr, mNot, mIf, mArgs, escAll, esc, soft, pk, hard, put, puts, mHards, mPar, mTup, mLst, mDct0, mCall, mRest, mRt, mRtN, mNx, mEx, mIte, mMut, mPut, mIt, bindT, bindTs, isAtom, isLst, isDK, plainAt, wipeE, backE, mFor, mLc, mDc, mWhile, mBk, mCt, mNo, mSl, mNoP, mPt, mJoin, mRng1, mRng2, mZip, mCallK, pickL, mMeth, mProp, mMake, mFld, fnI, fnIR, mDisp, mPairs, o2I, gtI, geI, leI, mStar, mStarT, mStarL, mAugI, mIndex, e2, pow12]
    obtain ⟨b5, b6, q1⟩ := q1 _ rfl
    obtain ⟨c5, c6, c7, q2⟩ := q2 _ b5 b6 rfl
    have e8 : mErrT 2000 (mV 3) (⟨[some ⟨.scr ns, false⟩, some ⟨.res, false⟩, some ⟨d, false⟩, some ⟨.str page, false⟩, some ⟨item, false⟩, c5, c6, c7, a8], r2⟩ : S Dr) = some (.sh (eT page 2000), ⟨[some ⟨.scr ns, false⟩, some ⟨.res, false⟩, some ⟨d, false⟩, some ⟨.str page, false⟩, some ⟨item, false⟩, c5, c6, c7, a8], r2⟩) := rfl
    have hP : P ⟨[some ⟨.scr ns, false⟩, some ⟨.res, false⟩, some ⟨d, false⟩, some ⟨.str page, false⟩, some ⟨item, false⟩, c5, c6, c7, some ⟨eT page 2000, false⟩], r2⟩ := ⟨_, _, _, _, _, _, _, r2, rfl⟩
    have w9 := marks0 T r2 page
    have w10 := isV page
    have m19 := mul19
    have n19 := ne19
    generalize List.replicate 19 (D.bl false) = L19 at w9 m19 n19
    generalize eT page 2000 = E at e8 hP w9 w10
    clear_value P
    generalize mFor (mIt itemsOf (mCall (f__law_plain T) (mArgs [mV 3]))) (.tp [.nm 5, .nm 6]) _ = F1 at q1 ⊢
    generalize mFor (mIt itemsOf (mCall (f__law_with_fields T) (mArgs [mV 4]))) (.tp [.nm 5, .nm 6, .nm 7]) _ = F2 at q2 ⊢
    generalize mErrT 2000 (mV 3) = F3 at e8 ⊢
    simp [fnM, fnR, ent, mSeq, mSet, mV, mC, mOp1, mOp2, mChain, mAnd, mOr, mNot, mIf, mArgs, escAll, esc, soft, pk, hard, put, puts, mHards, mPar, mTup, mLst, mDct0, mCall, mRest, mRt, mRtN, mNx, mEx, mIte, mMut, mPut, mIt, bindT, bindTs, isAtom, isLst, isDK, plainAt, wipeE, backE, mFor, mLc, mDc, mWhile, mBk, mCt, mNo, mSl, mNoP, mPt, mJoin, mRng1, mRng2, mZip, mCallK, pickL, mMeth, mProp, mMake, mFld, fnI, fnIR, mDisp, mPairs, o2I, gtI, geI, leI, mStar, mStarT, mStarL, mAugI, mIndex, bindT, e1, e4, q1, q2, e8, w9, w10, m19, n19]
    exact hP
  · rintro fl s ⟨rfl, a2, a3, a4, a5, a6, a7, a8, r', rfl⟩
    simp
end RW
set_option maxHeartbeats 0
open PySem PySem.W PySem.Calls PyProof.Rows
theorem PySem.Challenge.cw_roundways_k01_errors_by_hand_holds : PySem.Challenge.rw_roundways_k01_errors_by_hand.Holds := by
  w_on; o_law
  refine HandSHeadRun.head_any (r := OpenLaw.row PySem.Challenge.rw_roundways_k01_errors_by_hand) (q := view (OpenLaw.row PySem.Challenge.rw_roundways_k01_errors_by_hand).prog [30]) (H := RW.hk) (ob := RW.ob) (M := 8000) (loose := RW.nms) (d := HandSHeadRun.topDef (OpenLaw.row PySem.Challenge.rw_roundways_k01_errors_by_hand).prog 30) (kwd := []) RW.ob_eq
    (by kernel_rfl) (fun s => by kernel_rfl) RW.run (by kernel_rfl) (by kernel_rfl) (by kernel_rfl) (by rfl) (by first | assumption | decide +kernel) (by decide +kernel) ⟨rfl, rfl, rfl, rfl, rfl, by decide +kernel⟩ ?hw ?hc
  case hw => w_witness2
  case hc =>
    refine RW.end_ofQ (l := PySem.Challenge.rw_roundways_k01_errors_by_hand) (n := 63) (k := 5) (x := "script") rfl (by decide) (by kernel_rfl) ⟨rfl, by decide, by decide⟩ ?_
    intro w mg f h K S gn hmg
    have hmg : mg ("law" : PySem.Str) = some (.ref f) := by
      have e : (HandSHeadRun.topDef (OpenLaw.row PySem.Challenge.rw_roundways_k01_errors_by_hand).prog 30).name = ("law" : PySem.Str) := by kernel_rfl
      rw [← e]
      exact hmg
    have e := hmg.symm.trans (RW.G_law (g := RW.g0 w K (RW.clsOf K)) S.kin gn S.c)
    cases e
    obtain ⟨fd, F⟩ := S.c.def_ 8 (d := ⟨("law", none), "law", "law", L2.defArgs (RW.top 30), L2.defBody (RW.top 30), L2.defScope (RW.top 30), [], []⟩) rfl
    have b := L2.FunD.bindsA (ps := ["script"]) F fun _ _ _ _ _ _ us hl => match us, hl with | [_], _ => rfl
    exact ⟨fd, fun s v => b s [v] rfl, fun base kb gb sy => RW.ok_law kb gb S.c sy S.ex S.gt ⟨by kernel_rfl, by kernel_rfl⟩ (RW.begin_ok _) RW.law_k01 F⟩
