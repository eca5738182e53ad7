import PyProof.Rows.All
import Wide.All
import OpenK.AllK
import Wide.FinOn
import PySem.Challenge.RW_mathboxes_k52_bars_above_and_below
import PyProof.EqAt
import PyProof.EqKinds
import PyProof.TupleCall
import HandS.Base
import HandS.Call
import HandS.List
import HandS.Comp
import HandS.Dict
import HandS.Iter
import HandS.Exc
import HandS.Words
import HandS.Wide
import HandS.TupAny
import HandS.Codes
import KE.DataEq
import HandS.ExcOwn
import HandS.CallSlots
import HandS.WordsExc
import HandS.Ends
import HandS.IsInst
import HandS.Zip
import HandS.WordsList
import HandS.ExcInit
import HandS.ClsMeth
import HandS.TryMany
import HandS.TryOnly
import HandS.ExcField
import HandS.More
import PyProof.ReprRoads
import PyProof.InstNe
import OpenK.KWalk
import HandS.Defaults
import HandS.Style
import KE.SortData
import HandS.Strs
import HandS.HeadHook3
import PyProof.DictUpdate
import HandS.Deep
import HandS.Zip0
import KE.DataCmp
import KE.KDictSum
import KE.KDictCopyH
import PyProof.TupleOfStr
import HandS.Text
import KE.GoesMore
import HandS.NoneIn
import HandS.Conv
set_option Elab.async false
section
set_option Elab.async false
set_option linter.all false
set_option maxRecDepth 100000
set_option maxHeartbeats 4000000
/-! T: values as trees; a reading by a function from trees to trees -/
namespace T
open PySem PySem.Spec PyProof.Rows L2
abbrev Frag := PySem.W.Frag
abbrev FP := Addr → Prop
abbrev Cid := Nat
inductive D where
  | non | bl (b : Bool) | int (i : Int) | str (x : Str)
  | ty (n : String) | cls (c : Cid)
  | tup (xs : List D)
  | lst (o : Bool) (xs : List D)
  | dK (o : Bool) (ks : List Key) (vs : List D)
  | dT (o : Bool) (ks : List (List Key)) (vs : List D)
  | ins (o : Bool) (c : Cid) (fs : List Str) (vs : List D)
/-- a footprint is split -/
structure Spl (A A1 A2 : FP) : Prop where
  l : ∀ b, A1 b → A b
  r : ∀ b, A2 b → A b
  d : ∀ b, A1 b → A2 b → False
def no : FP := fun _ => False
def un (A B : FP) : FP := fun b => A b ∨ B b
def KTup (K : Frag) (a : Addr) (xs : List V) : Prop := ∃ (o : Obj) (its : Array Value) (n : Nat), K.lookup a = some o ∧ o.cls = .type "tuple" ∧ o.data = .seq its n ∧ its.size ≤ sizeLine ∧ Vals xs its.toList
def KLst (K : Frag) (a : Addr) (xs : List V) : Prop := ∃ (o : Obj) (its : Array Value) (n : Nat), K.lookup a = some o ∧ o.cls = .type "list" ∧ o.dict = none ∧ o.data = .seq its n ∧ its.size ≤ sizeLine ∧ Vals xs its.toList
def TupAt (K : Frag) (F : FP) (H : Hp) (a : Addr) (vs : List V) : Prop := (H a = some (.tup vs) ∧ F a) ∨ KTup K a vs
def LstAt (K : Frag) (F : FP) (H : Hp) (a : Addr) (vs : List V) : Prop := Rd H a (.lst vs) ∧ F a
theorem TupAt.sq {K : Frag} {F : FP} {H : Hp} {a : Addr} {vs : List V} (h : TupAt K F H a vs) : SqT K H a vs := by
  rcases h with ⟨h, _⟩ | h
  · exact .inl (.inl h)
  · exact .inr h
theorem LstAt.sq {K : Frag} {F : FP} {H : Hp} {a : Addr} {vs : List V} (h : LstAt K F H a vs) : SqL K H a vs := .inl h.1
section
variable (K : Frag) (cA : Cid → Addr) (F : FP) (H : Hp)
mutual
/-- the value v is the tree d; what d owns lies in A -/
def Rep : D → V → FP → Prop
  | .non, v, _ => v = .non
  | .bl b, v, _ => v = .bl b
  | .int i, v, _ => v = .int i
  | .str x, v, _ => v = .str x
  | .ty n, v, _ => v = .ty n
  | .cls c, v, _ => v = .ref (cA c)
  | .tup ds, v, A => ∃ a vs, v = .ref a ∧ TupAt K F H a vs ∧ Reps ds vs A
  | .lst false ds, v, _ => ∃ a vs, v = .ref a ∧ LstAt K F H a vs ∧ Reps ds vs no
  | .lst true ds, v, A => ∃ a vs A', v = .ref a ∧ H a = some (.lst vs) ∧ A a ∧ (∀ b, A' b → A b ∧ b ≠ a) ∧ Reps ds vs A'
  | .dK false ks ds, v, _ => ∃ a vs, v = .ref a ∧ H a = some (.dK (ks.zip vs)) ∧ ks.length = vs.length ∧ F a ∧ Reps ds vs no
  | .dK true ks ds, v, A => ∃ a vs A', v = .ref a ∧ H a = some (.dK (ks.zip vs)) ∧ ks.length = vs.length ∧ A a ∧ (∀ b, A' b → A b ∧ b ≠ a) ∧ Reps ds vs A'
  | .dT false ks ds, v, _ => ∃ a vs, v = .ref a ∧ H a = some (.dT (ks.zip vs)) ∧ ks.length = vs.length ∧ F a ∧ Reps ds vs no
  | .dT true ks ds, v, A => ∃ a vs A', v = .ref a ∧ H a = some (.dT (ks.zip vs)) ∧ ks.length = vs.length ∧ A a ∧ (∀ b, A' b → A b ∧ b ≠ a) ∧ Reps ds vs A'
  | .ins false c fs ds, v, _ => ∃ a vs dx, v = .ref a ∧ H a = some (.ins (cA c) dx (fs.zip vs)) ∧ fs.length = vs.length ∧ F a ∧ Reps ds vs no
  | .ins true c fs ds, v, A => ∃ a vs dx A', v = .ref a ∧ H a = some (.ins (cA c) dx (fs.zip vs)) ∧ fs.length = vs.length ∧ A a ∧ (∀ b, A' b → A b ∧ b ≠ a) ∧ Reps ds vs A'
def Reps : List D → List V → FP → Prop
  | [], vs, _ => vs = []
  | d :: ds, vs, A => ∃ v vs' A1 A2, vs = v :: vs' ∧ Spl A A1 A2 ∧ Rep d v A1 ∧ Reps ds vs' A2
end
end
theorem Spl.weak {A A' A1 A2 : FP} (s : Spl A A1 A2) (h : ∀ b, A b → A' b) : Spl A' A1 A2 := ⟨fun b x => h b (s.l b x), fun b x => h b (s.r b x), s.d⟩
theorem rd_keep {H H' : Hp} {a : Addr} {u : HO} (h : Rd H a u) (k : ∀ o, H a = some o → H' a = some o) : Rd H' a u := by
  rcases h with h | ⟨o, h⟩
  · exact .inl (k _ h)
  · exact .inr ⟨o, k _ h⟩
section
variable {K : Frag} {cA : Cid → Addr} {F F' : FP} {H H' : Hp}
mutual
/-- the heap goes on, what is frozen grows, the footprint grows -/
theorem Rep.move (hF : ∀ b, F b → F' b) : ∀ {d : D} {v : V} {A A' : FP}, (∀ b o, F b ∨ A b → H b = some o → H' b = some o) → (∀ b, A b → A' b) → Rep K cA F H d v A → Rep K cA F' H' d v A'
  | .non, _, _, _, _, _, h => h
  | .bl _, _, _, _, _, _, h => h
  | .int _, _, _, _, _, _, h => h
  | .str _, _, _, _, _, _, h => h
  | .ty _, _, _, _, _, _, h => h
  | .cls _, _, _, _, _, _, h => h
  | .tup ds, _, _, _, k, hA, h => by
    obtain ⟨a, vs, e, t, r⟩ := h
    refine ⟨a, vs, e, ?_, Reps.move hF k hA r⟩
    rcases t with ⟨t, f⟩ | t
    · exact .inl ⟨k a _ (.inl f) t, hF a f⟩
    · exact .inr t
  | .lst false ds, _, _, _, k, hA, h => by
    obtain ⟨a, vs, e, t, r⟩ := h
    exact ⟨a, vs, e, ⟨rd_keep t.1 fun o e => k a o (.inl t.2) e, hF a t.2⟩, Reps.move hF (fun b o z => k b o (z.elim .inl fun z => z.elim)) (fun _ z => z) r⟩
  | .lst true ds, _, _, _, k, hA, h => by
    obtain ⟨a, vs, A', e, t, m, s, r⟩ := h
    exact ⟨a, vs, A', e, k a _ (.inr m) t, hA a m, fun b z => ⟨hA b (s b z).1, (s b z).2⟩, Reps.move hF (fun b o z => k b o (z.elim .inl fun z => .inr (s b z).1)) (fun _ z => z) r⟩
  | .dK false ks ds, _, _, _, k, hA, h => by
    obtain ⟨a, vs, e, t, l, f, r⟩ := h
    exact ⟨a, vs, e, k a _ (.inl f) t, l, hF a f, Reps.move hF (fun b o z => k b o (z.elim .inl fun z => z.elim)) (fun _ z => z) r⟩
  | .dK true ks ds, _, _, _, k, hA, h => by
    obtain ⟨a, vs, A', e, t, l, m, s, r⟩ := h
    exact ⟨a, vs, A', e, k a _ (.inr m) t, l, hA a m, fun b z => ⟨hA b (s b z).1, (s b z).2⟩, Reps.move hF (fun b o z => k b o (z.elim .inl fun z => .inr (s b z).1)) (fun _ z => z) r⟩
  | .dT false ks ds, _, _, _, k, hA, h => by
    obtain ⟨a, vs, e, t, l, f, r⟩ := h
    exact ⟨a, vs, e, k a _ (.inl f) t, l, hF a f, Reps.move hF (fun b o z => k b o (z.elim .inl fun z => z.elim)) (fun _ z => z) r⟩
  | .dT true ks ds, _, _, _, k, hA, h => by
    obtain ⟨a, vs, A', e, t, l, m, s, r⟩ := h
    exact ⟨a, vs, A', e, k a _ (.inr m) t, l, hA a m, fun b z => ⟨hA b (s b z).1, (s b z).2⟩, Reps.move hF (fun b o z => k b o (z.elim .inl fun z => .inr (s b z).1)) (fun _ z => z) r⟩
  | .ins false c fs ds, _, _, _, k, hA, h => by
    obtain ⟨a, vs, dx, e, t, l, f, r⟩ := h
    exact ⟨a, vs, dx, e, k a _ (.inl f) t, l, hF a f, Reps.move hF (fun b o z => k b o (z.elim .inl fun z => z.elim)) (fun _ z => z) r⟩
  | .ins true c fs ds, _, _, _, k, hA, h => by
    obtain ⟨a, vs, dx, A', e, t, l, m, s, r⟩ := h
    exact ⟨a, vs, dx, A', e, k a _ (.inr m) t, l, hA a m, fun b z => ⟨hA b (s b z).1, (s b z).2⟩, Reps.move hF (fun b o z => k b o (z.elim .inl fun z => .inr (s b z).1)) (fun _ z => z) r⟩
theorem Reps.move (hF : ∀ b, F b → F' b) : ∀ {ds : List D} {vs : List V} {A A' : FP}, (∀ b o, F b ∨ A b → H b = some o → H' b = some o) → (∀ b, A b → A' b) → Reps K cA F H ds vs A → Reps K cA F' H' ds vs A'
  | [], _, _, _, _, _, h => h
  | d :: ds, _, _, _, k, hA, h => by
    obtain ⟨v, vs', A1, A2, e, s, r, rs⟩ := h
    exact ⟨v, vs', A1, A2, e, s.weak hA, Rep.move hF (fun b o z => k b o (z.elim .inl fun z => .inr (s.l b z))) (fun _ z => z) r, Reps.move hF (fun b o z => k b o (z.elim .inl fun z => .inr (s.r b z))) (fun _ z => z) rs⟩
end
mutual
def fz : D → D
  | .non => .non
  | .bl b => .bl b
  | .int i => .int i
  | .str x => .str x
  | .ty n => .ty n
  | .cls c => .cls c
  | .tup ds => .tup (fzs ds)
  | .lst _ ds => .lst false (fzs ds)
  | .dK _ ks ds => .dK false ks (fzs ds)
  | .dT _ ks ds => .dT false ks (fzs ds)
  | .ins _ c fs ds => .ins false c fs (fzs ds)
def fzs : List D → List D
  | [] => []
  | d :: ds => fz d :: fzs ds
end
mutual
/-- what was owned is frozen -/
theorem Rep.fz : ∀ {d : D} {v : V} {A : FP}, (∀ b, A b → F' b) → (∀ b, F b → F' b) → Rep K cA F H d v A → Rep K cA F' H (fz d) v no
  | .non, _, _, _, _, h => h
  | .bl _, _, _, _, _, h => h
  | .int _, _, _, _, _, h => h
  | .str _, _, _, _, _, h => h
  | .ty _, _, _, _, _, h => h
  | .cls _, _, _, _, _, h => h
  | .tup ds, _, _, hA, hF, h => by
    obtain ⟨a, vs, e, t, r⟩ := h
    refine ⟨a, vs, e, ?_, Reps.fz hA hF r⟩
    rcases t with ⟨t, f⟩ | t
    · exact .inl ⟨t, hF a f⟩
    · exact .inr t
  | .lst false ds, _, _, hA, hF, h => by
    obtain ⟨a, vs, e, t, r⟩ := h
    exact ⟨a, vs, e, ⟨t.1, hF a t.2⟩, Reps.fz (fun _ z => z.elim) hF r⟩
  | .lst true ds, _, _, hA, hF, h => by
    obtain ⟨a, vs, A', e, t, m, s, r⟩ := h
    exact ⟨a, vs, e, ⟨.inl t, hA a m⟩, Reps.fz (fun b z => hA b (s b z).1) hF r⟩
  | .dK false ks ds, _, _, hA, hF, h => by
    obtain ⟨a, vs, e, t, l, f, r⟩ := h
    exact ⟨a, vs, e, t, l, hF a f, Reps.fz (fun _ z => z.elim) hF r⟩
  | .dK true ks ds, _, _, hA, hF, h => by
    obtain ⟨a, vs, A', e, t, l, m, s, r⟩ := h
    exact ⟨a, vs, e, t, l, hA a m, Reps.fz (fun b z => hA b (s b z).1) hF r⟩
  | .dT false ks ds, _, _, hA, hF, h => by
    obtain ⟨a, vs, e, t, l, f, r⟩ := h
    exact ⟨a, vs, e, t, l, hF a f, Reps.fz (fun _ z => z.elim) hF r⟩
  | .dT true ks ds, _, _, hA, hF, h => by
    obtain ⟨a, vs, A', e, t, l, m, s, r⟩ := h
    exact ⟨a, vs, e, t, l, hA a m, Reps.fz (fun b z => hA b (s b z).1) hF r⟩
  | .ins false c fs ds, _, _, hA, hF, h => by
    obtain ⟨a, vs, dx, e, t, l, f, r⟩ := h
    exact ⟨a, vs, dx, e, t, l, hF a f, Reps.fz (fun _ z => z.elim) hF r⟩
  | .ins true c fs ds, _, _, hA, hF, h => by
    obtain ⟨a, vs, dx, A', e, t, l, m, s, r⟩ := h
    exact ⟨a, vs, dx, e, t, l, hA a m, Reps.fz (fun b z => hA b (s b z).1) hF r⟩
theorem Reps.fz : ∀ {ds : List D} {vs : List V} {A : FP}, (∀ b, A b → F' b) → (∀ b, F b → F' b) → Reps K cA F H ds vs A → Reps K cA F' H (fzs ds) vs no
  | [], _, _, _, _, h => h
  | d :: ds, _, _, hA, hF, h => by
    obtain ⟨v, vs', A1, A2, e, s, r, rs⟩ := h
    exact ⟨v, vs', no, no, e, ⟨fun _ z => z, fun _ z => z, fun _ z => z.elim⟩, Rep.fz (fun b z => hA b (s.l b z)) hF r, Reps.fz (fun b z => hA b (s.r b z)) hF rs⟩
end
end
end T
end

section
set_option Elab.async false
set_option linter.all false
set_option maxRecDepth 100000
set_option maxHeartbeats 4000000
namespace T
open PySem PySem.Spec PyProof.Rows L2
/-! ### steps of the heap with what is frozen and what is owned -/
structure Sta (F A : FP) (H : Hp) : Prop where
  dj : ∀ b, A b → F b → False
  dom : ∀ b, F b ∨ A b → H b ≠ none
  nt : ∀ b vs, A b → H b ≠ some (.tup vs)
structure Step (F A : FP) (H : Hp) (F' A' : FP) (H' : Hp) : Prop where
  keep : ∀ b o, H b = some o → ¬ A b → H' b = some o
  live : ∀ b, H b ≠ none → H' b ≠ none
  fr : ∀ b, F b → F' b
  fnew : ∀ b, F' b → F b ∨ A b ∨ H b = none
  anew : ∀ b, A' b → A b ∨ H b = none
  sta : Sta F' A' H'
theorem Sta.sub {F A A' : FP} {H : Hp} (s : Sta F A H) (h : ∀ b, A' b → A b) : Sta F A' H := ⟨fun b x y => s.dj b (h b x) y, fun b x => s.dom b (x.imp id (h b)), fun b vs x => s.nt b vs (h b x)⟩
theorem Step.sub {F A F' A' A'' : FP} {H H' : Hp} (s : Step F A H F' A' H') (h : ∀ b, A'' b → A' b) : Step F A H F' A'' H' := ⟨s.keep, s.live, s.fr, s.fnew, fun b x => s.anew b (h b x), s.sta.sub h⟩
theorem Step.refl {F A : FP} {H : Hp} (s : Sta F A H) : Step F A H F A H := ⟨fun _ _ e _ => e, fun _ e => e, fun _ e => e, fun _ e => .inl e, fun _ e => .inl e, s⟩
theorem Step.trans {F A F1 A1 F2 A2 : FP} {H H1 H2 : Hp} (s : Step F A H F1 A1 H1) (t : Step F1 A1 H1 F2 A2 H2) : Step F A H F2 A2 H2 where
  keep := fun b o e n => t.keep b o (s.keep b o e n) fun x => (s.anew b x).elim n fun z => by rw [z] at e; cases e
  live := fun b e => t.live b (s.live b e)
  fr := fun b e => t.fr b (s.fr b e)
  fnew := fun b e => by
    have fresh : H1 b = none → H b = none := fun z => Classical.byContradiction fun n => s.live b n z
    rcases t.fnew b e with e | e | e
    · exact s.fnew b e
    · exact .inr (s.anew b e)
    · exact .inr (.inr (fresh e))
  anew := fun b e => by
    have fresh : H1 b = none → H b = none := fun z => Classical.byContradiction fun n => s.live b n z
    rcases t.anew b e with e | e
    · exact s.anew b e
    · exact .inr (fresh e)
  sta := t.sta
def Dj (A B : FP) : Prop := ∀ b, A b → B b → False
/-- a temporary B stands while the rest goes on -/
theorem Step.seq {F A F1 A1 B F2 A2 : FP} {H H1 H2 : Hp} (s : Step F A H F1 (un A1 B) H1) (d : Dj A1 B) (t : Step F1 A1 H1 F2 A2 H2) : Step F A H F2 (un A2 B) H2 ∧ Dj A2 B ∧ (∀ b o, F1 b ∨ B b → H1 b = some o → H2 b = some o) := by
  have nB : ∀ b, B b → H1 b ≠ none := fun b x => s.sta.dom b (.inr (.inr x))
  have kB : ∀ b o, F1 b ∨ B b → H1 b = some o → H2 b = some o := fun b o x e => t.keep b o e fun y => x.elim (fun x => s.sta.dj b (.inl y) x) (d b y)
  have dB : Dj A2 B := fun b x y => (t.anew b x).elim (fun z => d b z y) (nB b y)
  refine ⟨?_, dB, kB⟩
  have s' := (s.sub (A'' := A1) fun b x => .inl x).trans t
  refine ⟨s'.keep, s'.live, s'.fr, s'.fnew, fun b x => x.elim (s'.anew b) fun y => s.anew b (.inr y), ⟨fun b x y => x.elim (fun x => t.sta.dj b x y) fun x => ?_, fun b x => ?_, fun b vs x => x.elim (t.sta.nt b vs) fun x z => ?_⟩⟩
  · rcases t.fnew b y with y | y | y
    · exact s.sta.dj b (.inr x) y
    · exact d b y x
    · exact nB b x y
  · rcases x with x | x | x
    · exact t.sta.dom b (.inl x)
    · exact t.sta.dom b (.inr x)
    · exact t.live b (nB b x)
  · cases e : H1 b with
    | none => exact nB b x e
    | some o =>
      rw [kB b o (.inr x) e] at z
      exact s.sta.nt b vs (.inr x) (e.trans z)
/-! ### the names' values -/
abbrev Ro := List (Option D)
section
variable (K : Frag) (cA : Cid → Addr) (F : FP) (H : Hp)
def EnvR : Ro → List (Option V) → FP → Prop
  | [], σ, _ => σ = []
  | none :: ρ, σ, A => ∃ o σ', σ = o :: σ' ∧ EnvR ρ σ' A
  | some d :: ρ, σ, A => ∃ v σ' A1 A2, σ = some v :: σ' ∧ Spl A A1 A2 ∧ Rep K cA F H d v A1 ∧ EnvR ρ σ' A2
end
section
variable {K : Frag} {cA : Cid → Addr} {F F' : FP} {H H' : Hp}
theorem EnvR.move (hF : ∀ b, F b → F' b) : ∀ {ρ : Ro} {σ : List (Option V)} {A A' : FP}, (∀ b o, F b ∨ A b → H b = some o → H' b = some o) → (∀ b, A b → A' b) → EnvR K cA F H ρ σ A → EnvR K cA F' H' ρ σ A'
  | [], _, _, _, _, _, h => h
  | none :: ρ, _, _, _, k, hA, h => by
    obtain ⟨o, σ', e, r⟩ := h
    exact ⟨o, σ', e, EnvR.move hF k hA r⟩
  | some d :: ρ, _, _, _, k, hA, h => by
    obtain ⟨v, σ', A1, A2, e, s, r, rs⟩ := h
    exact ⟨v, σ', A1, A2, e, s.weak hA, Rep.move hF (fun b o z => k b o (z.elim .inl fun z => .inr (s.l b z))) (fun _ z => z) r, EnvR.move hF (fun b o z => k b o (z.elim .inl fun z => .inr (s.r b z))) (fun _ z => z) rs⟩
theorem EnvR.len : ∀ {ρ : Ro} {σ : List (Option V)} {A : FP}, EnvR K cA F H ρ σ A → ρ.length = σ.length
  | [], _, _, h => by cases h; rfl
  | none :: ρ, _, _, h => by
    obtain ⟨o, σ', rfl, r⟩ := h
    exact congrArg (· + 1) r.len
  | some d :: ρ, _, _, h => by
    obtain ⟨v, σ', A1, A2, rfl, s, r, rs⟩ := h
    exact congrArg (· + 1) rs.len
/-- one name's value is taken out -/
theorem EnvR.take : ∀ {ρ : Ro} {σ : List (Option V)} {A : FP} {i : Nat} {d : D}, EnvR K cA F H ρ σ A → ρ[i]? = some (some d) → ∃ v A1 A2, σ[i]? = some (some v) ∧ Spl A A1 A2 ∧ Rep K cA F H d v A1 ∧ EnvR K cA F H (ρ.set i none) σ A2
  | [], _, _, _, _, _, e => by simp at e
  | some d' :: ρ, _, A, 0, d, h, e => by
    obtain ⟨v, σ', A1, A2, rfl, s, r, rs⟩ := h
    cases e
    exact ⟨v, A1, A2, rfl, s, r, ⟨_, _, rfl, rs⟩⟩
  | none :: ρ, _, A, 0, d, h, e => by cases e
  | none :: ρ, _, A, i + 1, d, h, e => by
    obtain ⟨o, σ', rfl, r⟩ := h
    obtain ⟨v, A1, A2, e1, s, q, rs⟩ := EnvR.take (i := i) r (by simpa using e)
    exact ⟨v, A1, A2, by simpa using e1, s, q, ⟨o, σ', rfl, rs⟩⟩
  | some d' :: ρ, _, A, i + 1, d, h, e => by
    obtain ⟨v', σ', A3, A4, rfl, s', r', rs'⟩ := h
    obtain ⟨v, A1, A2, e1, s, q, rs⟩ := EnvR.take (i := i) rs' (by simpa using e)
    refine ⟨v, A1, un A3 A2, by simpa using e1, ⟨fun b x => s'.r b (s.l b x), fun b x => x.elim (s'.l b) fun x => s'.r b (s.r b x), fun b x y => y.elim (fun y => s'.d b y (s.l b x)) (s.d b x)⟩, q, ?_⟩
    exact ⟨v', σ', A3, A2, rfl, ⟨fun b x => .inl x, fun b x => .inr x, fun b x y => s'.d b x (s.r b y)⟩, r', rs⟩
/-- a name's value is put -/
theorem EnvR.put : ∀ {ρ : Ro} {σ : List (Option V)} {A B : FP} {i : Nat} {d : D} {v : V}, EnvR K cA F H ρ σ A → Rep K cA F H d v B → Dj A B → i < ρ.length → EnvR K cA F H (ρ.set i (some d)) (σ.set i (some v)) (un A B)
  | [], _, _, _, _, _, _, _, _, _, e => by simp at e
  | none :: ρ, _, A, B, 0, d, v, h, q, dj, e => by
    obtain ⟨o, σ', rfl, r⟩ := h
    exact ⟨v, σ', B, A, rfl, ⟨fun b x => .inr x, fun b x => .inl x, fun b x y => dj b y x⟩, q, r⟩
  | some d' :: ρ, _, A, B, 0, d, v, h, q, dj, e => by
    obtain ⟨v', σ', A3, A4, rfl, s', r', rs'⟩ := h
    exact ⟨v, σ', B, A4, rfl, ⟨fun b x => .inr x, fun b x => .inl (s'.r b x), fun b x y => dj b (s'.r b y) x⟩, q, rs'⟩
  | none :: ρ, _, A, B, i + 1, d, v, h, q, dj, e => by
    obtain ⟨o, σ', rfl, r⟩ := h
    exact ⟨o, _, rfl, EnvR.put r q dj (by simpa using e)⟩
  | some d' :: ρ, _, A, B, i + 1, d, v, h, q, dj, e => by
    obtain ⟨v', σ', A3, A4, rfl, s', r', rs'⟩ := h
    refine ⟨v', _, A3, un A4 B, rfl, ⟨fun b x => .inl (s'.l b x), fun b x => x.imp (s'.r b) id, fun b x y => y.elim (s'.d b x) fun y => dj b (s'.l b x) y⟩, r', EnvR.put rs' q (fun b x y => dj b (s'.r b x) y) (by simpa using e)⟩
theorem set_same {α : Type} {l : List α} {i : Nat} {x : α} (h : l[i]? = some x) : l.set i x = l := by
  induction l generalizing i with
  | nil => rfl
  | cons a l ih =>
    cases i with
    | zero => simp at h; subst h; rfl
    | succ i => simp at h; simp [ih h]
/-- put back where the slot holds it -/
theorem EnvR.back {ρ : Ro} {σ : List (Option V)} {A B : FP} {i : Nat} {d : D} {v : V} (h : EnvR K cA F H ρ σ A) (q : Rep K cA F H d v B) (dj : Dj A B) (e : σ[i]? = some (some v)) : EnvR K cA F H (ρ.set i (some d)) σ (un A B) := by
  have l : i < ρ.length := by rw [h.len]; exact (List.getElem?_eq_some_iff.mp e).1
  have z := h.put (i := i) q dj l
  rw [set_same e] at z
  exact z
/-- a name is forgotten, its slot may hold anything -/
theorem EnvR.drop : ∀ {ρ : Ro} {σ : List (Option V)} {A : FP} {i : Nat} {o : Option V}, EnvR K cA F H ρ σ A → EnvR K cA F H (ρ.set i none) (σ.set i o) A
  | [], _, _, _, _, h => by cases h; exact rfl
  | none :: ρ, _, A, 0, o, h => by
    obtain ⟨o', σ', rfl, r⟩ := h
    exact ⟨o, σ', rfl, r⟩
  | some d' :: ρ, _, A, 0, o, h => by
    obtain ⟨v', σ', A3, A4, rfl, s', r', rs'⟩ := h
    exact ⟨o, σ', rfl, rs'.move (fun _ z => z) (fun _ _ _ e => e) s'.r⟩
  | none :: ρ, _, A, i + 1, o, h => by
    obtain ⟨o', σ', rfl, r⟩ := h
    exact ⟨o', _, rfl, EnvR.drop r⟩
  | some d' :: ρ, _, A, i + 1, o, h => by
    obtain ⟨v', σ', A3, A4, rfl, s', r', rs'⟩ := h
    exact ⟨v', _, A3, A4, rfl, s', r', EnvR.drop rs'⟩
def fzo : Option D → Option D := fun o => o.map fz
/-- all is frozen -/
theorem EnvR.fz : ∀ {ρ : Ro} {σ : List (Option V)} {A : FP}, (∀ b, A b → F' b) → (∀ b, F b → F' b) → EnvR K cA F H ρ σ A → EnvR K cA F' H (ρ.map fzo) σ no
  | [], _, _, _, _, h => h
  | none :: ρ, _, _, hA, hF, h => by
    obtain ⟨o, σ', e, r⟩ := h
    exact ⟨o, σ', e, EnvR.fz hA hF r⟩
  | some d :: ρ, _, _, hA, hF, h => by
    obtain ⟨v, σ', A1, A2, e, s, r, rs⟩ := h
    exact ⟨v, σ', no, no, e, ⟨fun _ z => z, fun _ z => z, fun _ z => z.elim⟩, Rep.fz (fun b z => hA b (s.l b z)) hF r, EnvR.fz (fun b z => hA b (s.r b z)) hF rs⟩
end
/-! ### what a piece of code does, by trees -/
structure Exn where
  c : Cid
  fs : List Str
  vs : List D
inductive R (α : Type) where
  | bad
  | ok (a : α) (ρ : Ro)
  | exc (x : Exn) (ρ : Ro)
def R.bind {α β : Type} (r : R α) (f : α → Ro → R β) : R β := match r with
  | .bad => .bad
  | .ok a ρ => f a ρ
  | .exc x ρ => .exc x ρ
structure Lc where
  cA : Cid → Addr
  W : WX
  pin : List (Nat × V)
def ExcR (K : Frag) (cA : Cid → Addr) (F : FP) (H : Hp) (x : Exn) (c : Value) (dd : Option Addr) : Prop :=
  c = .ref (cA x.c) ∧ ∃ d vs, dd = some d ∧ H d = some (.xd (x.fs.zip vs)) ∧ x.fs.length = vs.length ∧ F d ∧ Reps K cA F H x.vs vs no
structure EnvL (K : Frag) (L : Lc) (F : FP) (H : Hp) (ρ : Ro) (σ : L2.St) (A : FP) : Prop where
  env : EnvR K L.cA F H ρ σ A
  pin : ∀ p ∈ L.pin, σ[p.1]? = some (some p.2)
theorem EnvL.move {K : Frag} {L : Lc} {F F' A A' : FP} {H H' : Hp} {ρ : Ro} {σ : L2.St} (e : EnvL K L F H ρ σ A) (hF : ∀ b, F b → F' b) (k : ∀ b o, F b ∨ A b → H b = some o → H' b = some o) (hA : ∀ b, A b → A' b) : EnvL K L F' H' ρ σ A' :=
  ⟨e.env.move hF k hA, e.pin⟩
section
variable {α β γ δ : Type}
/-- values' relations -/
abbrev Rel (α β : Type) := Frag → (Cid → Addr) → FP → Hp → α → β → FP → Prop
def okP (K : Frag) (L : Lc) (rel : Rel α β) (F A : FP) (H : Hp) (σ : L2.St) (Q : β → Hp → Prop) (a : α) (ρ' : Ro) : Prop :=
  ∀ y H' F' A' B, Step F A H F' (un A' B) H' → Dj A' B → EnvL K L F' H' ρ' σ A' → rel K L.cA F' H' a y B → Q y H'
def excP (K : Frag) (L : Lc) (F A : FP) (H : Hp) (σ : L2.St) (x : Exn) (ρ' : Ro) : Prop :=
  ∀ c dd H' F' A', Step F A H F' A' H' → EnvL K L F' H' ρ' σ A' → ExcR K L.cA F' H' x c dd → L.W c dd σ H'
def Post (K : Frag) (L : Lc) (rel : Rel α β) (F A : FP) (H : Hp) (σ : L2.St) (Q : β → Hp → Prop) : R α → Prop
  | .bad => False
  | .ok a ρ' => okP K L rel F A H σ Q a ρ'
  | .exc x ρ' => excP K L F A H σ x ρ'
def lft (K : Frag) (L : Lc) (rel : Rel α β) (m : Ro → R α) : L2.St → Hp → (β → Hp → Prop) → Prop := fun σ H Q =>
  ∃ ρ F A, Sta F A H ∧ EnvL K L F H ρ σ A ∧ Post K L rel F A H σ Q (m ρ)
theorem Post.step {K : Frag} {L : Lc} {rel : Rel α β} {F A F1 A1 : FP} {H H1 : Hp} {σ : L2.St} {Q : β → Hp → Prop} {r : R α} (s : Step F A H F1 A1 H1) (h : Post K L rel F A H σ Q r) : Post K L rel F1 A1 H1 σ Q r := by
  cases r with
  | bad => exact h
  | ok a ρ' => exact fun y H' F' A' B t d e q => h y H' F' A' B (s.trans t) d e q
  | exc x ρ' => exact fun c dd H' F' A' t e q => h c dd H' F' A' (s.trans t) e q
/-- one part, then the rest -/
theorem lft_bind {K : Frag} {L : Lc} {rel : Rel α β} {rel' : Rel γ δ} {m : Ro → R α} {f : α → Ro → R γ} {σ : L2.St} {H : Hp} {Q : δ → Hp → Prop} {Q' : β → Hp → Prop} (h : lft K L rel' (fun ρ => (m ρ).bind f) σ H Q)
    (k : ∀ y H1 F1 A1 B a ρ1, Sta F1 (un A1 B) H1 → Dj A1 B → EnvL K L F1 H1 ρ1 σ A1 → rel K L.cA F1 H1 a y B → Post K L rel' F1 (un A1 B) H1 σ Q (f a ρ1) → Q' y H1) : lft K L rel m σ H Q' := by
  obtain ⟨ρ, F, A, st, en, p⟩ := h
  refine ⟨ρ, F, A, st, en, ?_⟩
  change Post K L rel' F A H σ Q ((m ρ).bind f) at p
  cases e : m ρ with
  | bad => rw [e] at p; exact p
  | ok a ρ1 =>
    rw [e] at p
    intro y H1 F1 A1 B s d en1 q
    exact k y H1 F1 A1 B a ρ1 s.sta d en1 q (p.step s)
  | exc x ρ1 => rw [e] at p; exact p
/-- .. where a temporary stands: B0 -/
theorem lft_rest {K : Frag} {L : Lc} {rel : Rel α β} {rel' : Rel γ δ} {m : Ro → R α} {f : α → Ro → R γ} {σ : L2.St} {Q : δ → Hp → Prop} {Q' : β → Hp → Prop} {H0 : Hp} {F0 A0 B0 : FP} {ρ0 : Ro}
    (st : Sta F0 (un A0 B0) H0) (d0 : Dj A0 B0) (en : EnvL K L F0 H0 ρ0 σ A0) (p : Post K L rel' F0 (un A0 B0) H0 σ Q ((m ρ0).bind f))
    (k : ∀ y H1 F1 A1 B a ρ1, Sta F1 (un (un A1 B) B0) H1 → Dj A1 B → Dj (un A1 B) B0 → EnvL K L F1 H1 ρ1 σ A1 → rel K L.cA F1 H1 a y B → (∀ b, F0 b → F1 b) → (∀ b o, F0 b ∨ B0 b → H0 b = some o → H1 b = some o) → Post K L rel' F1 (un (un A1 B) B0) H1 σ Q (f a ρ1) → Q' y H1) : lft K L rel m σ H0 Q' := by
  refine ⟨ρ0, F0, A0, st.sub fun b x => .inl x, en, ?_⟩
  have s0 := Step.refl st
  cases e : m ρ0 with
  | bad => rw [e] at p; exact p
  | ok a ρ1 =>
    rw [e] at p
    intro y H1 F1 A1 B s d en1 q
    obtain ⟨s1, d1, kb⟩ := s0.seq d0 s
    exact k y H1 F1 A1 B a ρ1 s1.sta d d1 en1 q s.fr kb (p.step s1)
  | exc x ρ1 =>
    rw [e] at p
    intro c dd H1 F1 A1 s en1 q
    obtain ⟨s1, d1, kb⟩ := s0.seq d0 s
    exact p c dd H1 F1 A1 (s1.sub fun b x => .inl x) en1 q
/-- an end -/
theorem Post.ret {K : Frag} {L : Lc} {rel : Rel α β} {F A A1 B : FP} {H : Hp} {σ : L2.St} {Q : β → Hp → Prop} {a : α} {y : β} {ρ : Ro} (p : Post K L rel F A H σ Q (.ok a ρ)) (st : Sta F A H) (hs : ∀ b, un A1 B b → A b) (d : Dj A1 B) (en : EnvL K L F H ρ σ A1)
    (q : rel K L.cA F H a y B) : Q y H := p y H F A1 B ((Step.refl st).sub hs) d en q
end
abbrev rE : Rel D V := fun K cA F H d v B => Rep K cA F H d v B
abbrev rA : Rel (List D) (List V) := fun K cA F H d v B => Reps K cA F H d v B
abbrev rT : Rel Bool Bool := fun _ _ _ _ a y _ => a = y
abbrev rO : Rel (Option Int) (Option Int) := fun _ _ _ _ a y _ => a = y
/-- an expression does m -/
structure DE (X : Cx) (L : Lc) (e : Expr) (m : Ro → R D) : Prop where
  pe : PE X e (lft X.K L rE m)
structure DA (X : Cx) (L : Lc) (es : List Expr) (m : Ro → R (List D)) : Prop where
  pa : PA X es (lft X.K L rA m)
structure DT (X : Cx) (L : Lc) (e : Expr) (m : Ro → R Bool) : Prop where
  pt : PT X e (lft X.K L rT m)
theorem pe_to {X : Cx} {e : Expr} {t t' : TE} (h : PE X e t) (i : ∀ σ H Q, t' σ H Q → t σ H Q) : PE X e t' := ⟨fun pins s σ H Q I q => h.run pins s σ H Q I (i σ H Q q)⟩
theorem pa_to {X : Cx} {e : List Expr} {t t' : TA} (h : PA X e t) (i : ∀ σ H Q, t' σ H Q → t σ H Q) : PA X e t' := ⟨fun pos pins s σ H Q I q => h.run pos pins s σ H Q I (i σ H Q q)⟩
theorem pt_to {X : Cx} {e : Expr} {t t' : TT} (h : PT X e t) (i : ∀ σ H Q, t' σ H Q → t σ H Q) : PT X e t' := ⟨fun pins s σ H Q I q => h.run pins s σ H Q I (i σ H Q q)⟩
theorem ps_to {X : Cx} {e : Stmt} {t t' : TS} (h : PS X e t) (i : ∀ D σ H, t' D σ H → t D σ H) : PS X e t' := ⟨fun pins s σ H D I q => h.run pins s σ H D I (i D σ H q)⟩
/-! ### constants, names -/
def mC (d : D) : Ro → R D := fun ρ => .ok d ρ
section
variable {X : Cx} {L : Lc} {pos : Pos}
theorem lft_c {K : Frag} {d : D} {v : V} (hr : ∀ F H A, Rep K L.cA F H d v A) : ∀ σ H Q, lft K L rE (mC d) σ H Q → Q v H := by
  rintro σ H Q ⟨ρ, F, A, st, en, p⟩
  exact p.ret st (A1 := A) (B := no) (fun b x => x.elim id False.elim) (fun _ _ z => z.elim) en (hr F H no)
theorem de_int {i : Int} {k : Nat} : DE X L (.Constant (.int i) k pos) (mC (.int i)) := ⟨pe_to pe_int fun σ H Q h => lft_c (d := .int i) (v := .int i) (fun _ _ _ => rfl) σ H Q h⟩
theorem de_bl {b : Bool} {k : Nat} : DE X L (.Constant (.bool b) k pos) (mC (.bl b)) := ⟨pe_to pe_bl fun σ H Q h => lft_c (d := .bl b) (v := .bl b) (fun _ _ _ => rfl) σ H Q h⟩
theorem de_non {k : Nat} : DE X L (.Constant .none k pos) (mC .non) := ⟨pe_to pe_non fun σ H Q h => lft_c (d := .non) (v := .non) (fun _ _ _ => rfl) σ H Q h⟩
theorem de_str {x : Str} {k : Nat} : DE X L (.Constant (.str x) k pos) (mC (.str x)) := ⟨pe_to pe_str fun σ H Q h => lft_c (d := .str x) (v := .str x) (fun _ _ _ => rfl) σ H Q h⟩
/-- a name: it is shared from now on -/
def mV (i : Nat) : Ro → R D := fun ρ => match ρ[i]? with
  | some (some d) => .ok (fz d) (ρ.set i (some (fz d)))
  | _ => .bad
/-- a name's last use: moved out -/
def mMv (i : Nat) : Ro → R D := fun ρ => match ρ[i]? with
  | some (some d) => .ok d (ρ.set i none)
  | _ => .bad
theorem lft_v {K : Frag} {i : Nat} : ∀ σ H Q, lft K L rE (mV i) σ H Q → tVar i σ H Q := by
  rintro σ H Q ⟨ρ, F, A, st, en, p⟩
  unfold mV at p
  split at p
  · rename_i d e
    obtain ⟨v, A1, A2, e1, s, r, rs⟩ := en.env.take e
    refine ⟨v, e1, ?_⟩
    -- A1 is frozen
    have st' : Sta (un F A1) A2 H := ⟨fun b x y => y.elim (fun y => st.dj b (s.r b x) y) fun y => s.d b y x, fun b x => x.elim (fun x => x.elim (fun x => st.dom b (.inl x)) fun x => st.dom b (.inr (s.l b x))) fun x => st.dom b (.inr (s.r b x)), fun b vs x => st.nt b vs (s.r b x)⟩
    have sp : Step F A H (un F A1) A2 H := ⟨fun _ _ e _ => e, fun _ e => e, fun _ x => .inl x, fun b x => x.imp id fun x => .inl (s.l b x), fun b x => .inl (s.r b x), st'⟩
    have r' : Rep K L.cA (un F A1) H (fz d) v no := r.fz (fun _ x => .inr x) fun _ x => .inl x
    have rs' : EnvR K L.cA (un F A1) H (ρ.set i none) σ A2 := rs.move (fun _ x => .inl x) (fun _ _ _ e => e) fun _ x => x
    have en' := rs'.back (d := fz d) (i := i) r' (fun _ _ z => z.elim) e1
    rw [List.set_set] at en'
    exact p v H (un F A1) (un A2 no) no (sp.sub fun b x => x.elim (fun x => x.elim id False.elim) False.elim) (fun _ _ z => z.elim) ⟨en', en.pin⟩ r'
  · exact p.elim
theorem lft_mv {K : Frag} {i : Nat} : ∀ σ H Q, lft K L rE (mMv i) σ H Q → tVar i σ H Q := by
  rintro σ H Q ⟨ρ, F, A, st, en, p⟩
  unfold mMv at p
  split at p
  · rename_i d e
    obtain ⟨v, A1, A2, e1, s, r, rs⟩ := en.env.take e
    exact ⟨v, e1, p v H F A2 A1 ((Step.refl st).sub fun b x => x.elim (s.r b) (s.l b)) (fun b x y => s.d b y x) ⟨rs, en.pin⟩ r⟩
  · exact p.elim
theorem de_v (i : Nat) {x : Str} (hN : X.N[i]? = some x := by rfl) (hv : Vis X.env.scope x := by first | exact Or.inl rfl | exact Or.inr (Or.inl rfl) | exact Or.inr (Or.inr rfl)) (hd : (x == ("__debug__" : Str)) = false := by decide)
    (hcd : (x == ("__classdict__" : Str)) = false := by decide) : DE X L (.Name x pos) (mV i) := ⟨pe_to (pe_var hN hv hd hcd) lft_v⟩
theorem de_mv (i : Nat) {x : Str} (hN : X.N[i]? = some x := by rfl) (hv : Vis X.env.scope x := by first | exact Or.inl rfl | exact Or.inr (Or.inl rfl) | exact Or.inr (Or.inr rfl)) (hd : (x == ("__debug__" : Str)) = false := by decide)
    (hcd : (x == ("__classdict__" : Str)) = false := by decide) : DE X L (.Name x pos) (mMv i) := ⟨pe_to (pe_var hN hv hd hcd) lft_mv⟩
end
/-! ### two operands -/
def m2 (op : D → D → Ro → R D) (ma mb : Ro → R D) : Ro → R D := fun ρ => (ma ρ).bind fun a ρ1 => (mb ρ1).bind fun b ρ2 => op a b ρ2
/-- an operator on trees -/
def Op2 (K : Frag) (L : Lc) (r : R2) (op : D → D → Ro → R D) : Prop := ∀ F A B1 B2 H σ Q d1 d2 v1 v2 ρ, Sta F (un (un A B2) B1) H → Dj A B2 → Dj (un A B2) B1 → EnvL K L F H ρ σ A → Rep K L.cA F H d1 v1 B1 → Rep K L.cA F H d2 v2 B2 →
  Post K L rE F (un (un A B2) B1) H σ Q (op d1 d2 ρ) → r v1 v2 H Q
theorem lft_2 {K : Frag} {L : Lc} {r : R2} {op : D → D → Ro → R D} {ma mb : Ro → R D} (ho : Op2 K L r op) : ∀ σ H Q, lft K L rE (m2 op ma mb) σ H Q → tOp r (lft K L rE ma) (lft K L rE mb) σ H Q := by
  intro σ H Q h
  refine lft_bind h fun v1 H1 F1 A1 B1 d1 ρ1 st1 dj1 en1 q1 p1 => ?_
  refine lft_rest st1 dj1 en1 p1 fun v2 H2 F2 A2 B2 d2 ρ2 st2 dj2 dj2' en2 q2 fr kb p2 => ?_
  exact ho F2 A2 B1 B2 H2 σ Q d1 d2 v1 v2 ρ2 st2 dj2 dj2' en2 (q1.move fr kb fun _ x => x) q2 p2
section
variable {X : Cx} {L : Lc} {pos : Pos} {a b : Expr} {ma mb : Ro → R D}
theorem de_op {o : Operator} {r : R2} {op : D → D → Ro → R D} (ho : OpR X (binaryOp o) r) (hm : Op2 X.K L r op) (ha : DE X L a ma) (hb : DE X L b mb) : DE X L (.BinOp a o b pos) (m2 op ma mb) := ⟨pe_to (pe_op ho ha.pe hb.pe) (lft_2 hm)⟩
/-- a value that is no object -/
def leaf : D → Option V
  | .non => some .non
  | .bl b => some (.bl b)
  | .int i => some (.int i)
  | .str x => some (.str x)
  | .ty n => some (.ty n)
  | _ => none
theorem Rep.leaf {K : Frag} {cA : Cid → Addr} {F A : FP} {H : Hp} {v w : V} {d : D} (h : T.leaf d = some w) (r : Rep K cA F H d v A) : v = w := by
  cases d <;> simp [T.leaf] at h <;> subst h <;> exact r
theorem Rep.ofLeaf {K : Frag} {cA : Cid → Addr} {F A : FP} {H : Hp} {w : V} {d : D} (h : T.leaf d = some w) : Rep K cA F H d w A := by
  cases d <;> simp [T.leaf] at h <;> subst h <;> rfl
/-- the end of an operation whose value is no object -/
theorem Post.leaf {K : Frag} {L : Lc} {F A A1 : FP} {H : Hp} {σ : L2.St} {Q : VK} {d : D} {w : V} {ρ : Ro} (p : Post K L rE F A H σ Q (.ok d ρ)) (h : T.leaf d = some w) (st : Sta F A H) (hs : ∀ b, A1 b → A b) (en : EnvL K L F H ρ σ A1) : Q w H :=
  p.ret (A1 := A1) (B := no) st (fun b x => x.elim (hs b) False.elim) (fun _ _ z => z.elim) en (Rep.ofLeaf h)
def oAdd : D → D → Ro → R D
  | .int i, .int j, ρ => .ok (.int (i + j)) ρ
  | _, _, _ => .bad
def oSub : D → D → Ro → R D
  | .int i, .int j, ρ => .ok (.int (i - j)) ρ
  | _, _, _ => .bad
theorem op2_int {K : Frag} {L : Lc} {f : Int → Int → D} {g : Int → Int → V} {op : D → D → Ro → R D} {C : Int → Int → Prop} (hop : ∀ d1 d2 ρ, op d1 d2 ρ ≠ .bad → ∃ i j, d1 = .int i ∧ d2 = .int j ∧ C i j ∧ op d1 d2 ρ = .ok (f i j) ρ) (hg : ∀ i j, leaf (f i j) = some (g i j)) : Op2 K L (rI C g) op := by
  intro F A B1 B2 H σ Q d1 d2 v1 v2 ρ st dj dj' en q1 q2 p
  have nb : op d1 d2 ρ ≠ .bad := fun z => by rw [z] at p; exact p
  obtain ⟨i, j, rfl, rfl, c, e⟩ := hop d1 d2 ρ nb
  rw [e] at p
  exact ⟨i, j, q1, q2, c, p.leaf (hg i j) st (fun b x => .inl (.inl x)) en⟩
theorem op2_int0 {K : Frag} {L : Lc} {f : Int → Int → D} {g : Int → Int → V} {op : D → D → Ro → R D} (hop : ∀ d1 d2 ρ, op d1 d2 ρ ≠ .bad → ∃ i j, d1 = .int i ∧ d2 = .int j ∧ op d1 d2 ρ = .ok (f i j) ρ) (hg : ∀ i j, leaf (f i j) = some (g i j)) : Op2 K L (rI0 g) op := by
  intro F A B1 B2 H σ Q d1 d2 v1 v2 ρ st dj dj' en q1 q2 p
  have nb : op d1 d2 ρ ≠ .bad := fun z => by rw [z] at p; exact p
  obtain ⟨i, j, rfl, rfl, e⟩ := hop d1 d2 ρ nb
  rw [e] at p
  exact ⟨i, j, q1, q2, p.leaf (hg i j) st (fun b x => .inl (.inl x)) en⟩
theorem de_addI (ha : DE X L a ma) (hb : DE X L b mb) : DE X L (.BinOp a .Add b pos) (m2 oAdd ma mb) :=
  de_op op_add (op2_int0 (f := fun i j => .int (i + j)) (fun d1 d2 ρ h => by cases d1 <;> cases d2 <;> first | exact ⟨_, _, rfl, rfl, rfl⟩ | exact absurd rfl h) fun _ _ => rfl) ha hb
theorem de_sub (ha : DE X L a ma) (hb : DE X L b mb) : DE X L (.BinOp a .Sub b pos) (m2 oSub ma mb) :=
  de_op op_sub (op2_int0 (f := fun i j => .int (i - j)) (fun d1 d2 ρ h => by cases d1 <;> cases d2 <;> first | exact ⟨_, _, rfl, rfl, rfl⟩ | exact absurd rfl h) fun _ _ => rfl) ha hb
end
end T
end

section
set_option Elab.async false
set_option linter.all false
set_option maxRecDepth 100000
set_option maxHeartbeats 4000000
namespace T
open PySem PySem.Spec PyProof.Rows L2
/-! ### going on -/
section
variable {K : Frag} {L : Lc} {α β : Type} {rel : Rel α β}
theorem lft_go {m : Ro → R α} {σ : L2.St} {H : Hp} {Q : β → Hp → Prop} {F A B : FP} {ρ : Ro} (st : Sta F (un A B) H) (en : EnvL K L F H ρ σ A) (p : Post K L rel F (un A B) H σ Q (m ρ)) : lft K L rel m σ H Q :=
  ⟨ρ, F, A, st.sub fun b x => .inl x, en, p.step ((Step.refl st).sub fun b x => .inl x)⟩
/-- an end whose value is no object -/
theorem Post.val {Q : β → Hp → Prop} {F A A1 : FP} {H : Hp} {σ : L2.St} {a : α} {y : β} {ρ : Ro} (p : Post K L rel F A H σ Q (.ok a ρ)) (st : Sta F A H) (hs : ∀ b, A1 b → A b) (en : EnvL K L F H ρ σ A1) (q : rel K L.cA F H a y no) : Q y H :=
  p.ret (A1 := A1) (B := no) st (fun b x => x.elim (hs b) False.elim) (fun _ _ z => z.elim) en q
end
/-! ### arithmetic -/
def mulOk (i j : Int) : Bool := decide (i.natAbs < 2 ^ 60) || decide (j.natAbs < 2 ^ 60) || decide (i.natAbs.log2 + j.natAbs.log2 < 1000000)
theorem mulOk_ok {i j : Int} (h : mulOk i j = true) : IntMulOk i j := by
  unfold mulOk at h
  rw [Bool.or_eq_true, Bool.or_eq_true] at h
  rcases h with (h | h) | h
  · have h := of_decide_eq_true h
    exact CMul.ok (.inl (by omega))
  · have h := of_decide_eq_true h
    exact CMul.ok (.inr (by omega))
  · have h : i.natAbs.log2 + j.natAbs.log2 < 1000000 := of_decide_eq_true h
    exact CMulW.ok h
def oMulI : D → D → Ro → R D
  | .int i, .int j, ρ => if mulOk i j then .ok (.int (i * j)) ρ else .bad
  | _, _, _ => .bad
def oFdiv : D → D → Ro → R D
  | .int i, .int j, ρ => if decide (0 < j) && decide (j.natAbs.log2 < 9000) then .ok (.int (i / j)) ρ else .bad
  | _, _, _ => .bad
def oMod : D → D → Ro → R D
  | .int i, .int j, ρ => if decide (0 < j) then .ok (.int (i % j)) ρ else .bad
  | _, _, _ => .bad
def oPow : D → D → Ro → R D
  | .int i, .int j, ρ => if decide (0 ≤ j) && decide (j ≤ 1000000) && decide (i.natAbs < 2 ^ 64) then .ok (.int (i ^ j.toNat)) ρ else .bad
  | _, _, _ => .bad
def m1 (op : D → Ro → R D) (ma : Ro → R D) : Ro → R D := fun ρ => (ma ρ).bind op
def oNeg : D → Ro → R D
  | .int i, ρ => .ok (.int (-i)) ρ
  | _, _ => .bad
section
variable {X : Cx} {L : Lc} {pos : Pos} {a b : Expr} {ma mb : Ro → R D}
theorem bif_ok {α : Type} {c : Bool} {x : R α} (h : (if c then x else .bad) ≠ .bad) : c = true := by
  cases c with
  | true => rfl
  | false => exact absurd rfl h
theorem de_mulI (ha : DE X L a ma) (hb : DE X L b mb) : DE X L (.BinOp a .Mult b pos) (m2 oMulI ma mb) :=
  de_op (r := rI IntMulOk fun i j => .int (i * j)) (opI fun _ _ _ _ _ _ _ hc q => mul_int q hc) (op2_int (f := fun i j => .int (i * j)) (fun d1 d2 ρ h => by
    cases d1 <;> cases d2 <;> first | exact absurd rfl h | skip
    rename_i i j
    have c : mulOk i j = true := bif_ok h
    exact ⟨i, j, rfl, rfl, mulOk_ok c, by simp only [oMulI, c, if_true]⟩) fun _ _ => rfl) ha hb
theorem de_fdiv (ha : DE X L a ma) (hb : DE X L b mb) : DE X L (.BinOp a .FloorDiv b pos) (m2 oFdiv ma mb) :=
  de_op op_fdivW (op2_int (f := fun i j => .int (i / j)) (fun d1 d2 ρ h => by
    cases d1 <;> cases d2 <;> first | exact absurd rfl h | skip
    rename_i i j
    have c : (decide (0 < j) && decide (j.natAbs.log2 < 9000)) = true := bif_ok h
    have c' := Bool.and_eq_true_iff.mp c
    exact ⟨i, j, rfl, rfl, ⟨of_decide_eq_true c'.1, of_decide_eq_true c'.2⟩, by simp only [oFdiv, c, if_true]⟩) fun _ _ => rfl) ha hb
theorem de_mod (ha : DE X L a ma) (hb : DE X L b mb) : DE X L (.BinOp a .Mod b pos) (m2 oMod ma mb) :=
  de_op op_mod (op2_int (f := fun i j => .int (i % j)) (fun d1 d2 ρ h => by
    cases d1 <;> cases d2 <;> first | exact absurd rfl h | skip
    rename_i i j
    have c : decide (0 < j) = true := bif_ok h
    exact ⟨i, j, rfl, rfl, of_decide_eq_true c, by simp only [oMod, c, if_true]⟩) fun _ _ => rfl) ha hb
theorem de_pow (ha : DE X L a ma) (hb : DE X L b mb) : DE X L (.BinOp a .Pow b pos) (m2 oPow ma mb) :=
  de_op op_pow (op2_int (f := fun i j => .int (i ^ j.toNat)) (fun d1 d2 ρ h => by
    cases d1 <;> cases d2 <;> first | exact absurd rfl h | skip
    rename_i i j
    have c : (decide (0 ≤ j) && decide (j ≤ 1000000) && decide (i.natAbs < 2 ^ 64)) = true := bif_ok h
    have c' := Bool.and_eq_true_iff.mp c
    have c'' := Bool.and_eq_true_iff.mp c'.1
    exact ⟨i, j, rfl, rfl, ⟨of_decide_eq_true c''.1, of_decide_eq_true c''.2, of_decide_eq_true c'.2⟩, by simp only [oPow, c, if_true]⟩) fun _ _ => rfl) ha hb
def Op1 (K : Frag) (L : Lc) (r : V → Hp → VK → Prop) (op : D → Ro → R D) : Prop := ∀ F A B H σ Q d v ρ, Sta F (un A B) H → Dj A B → EnvL K L F H ρ σ A → Rep K L.cA F H d v B → Post K L rE F (un A B) H σ Q (op d ρ) → r v H Q
theorem lft_1 {K : Frag} {r : V → Hp → VK → Prop} {op : D → Ro → R D} (ho : Op1 K L r op) : ∀ σ H Q, lft K L rE (m1 op ma) σ H Q → tUn r (lft K L rE ma) σ H Q := by
  intro σ H Q h
  exact lft_bind h fun v1 H1 F1 A1 B1 d1 ρ1 st1 dj1 en1 q1 p1 => ho F1 A1 B1 H1 σ Q d1 v1 ρ1 st1 dj1 en1 q1 p1
theorem de_neg (ha : DE X L a ma) : DE X L (.UnaryOp .USub a pos) (m1 oNeg ma) := ⟨pe_to (pe_un un_neg ha.pe) (lft_1 fun F A B H σ Q d v ρ st dj en q p => by
  cases d <;> first | exact p.elim | skip
  rename_i i
  exact ⟨i, q, p.leaf (w := .int (-i)) rfl st (fun b x => .inl x) en⟩)⟩
/-! ### comparisons -/
def oLt : D → D → Ro → R D
  | .int i, .int j, ρ => .ok (.bl (decide (i < j))) ρ
  | _, _, _ => .bad
def oLe : D → D → Ro → R D
  | .int i, .int j, ρ => .ok (.bl (decide (i ≤ j))) ρ
  | _, _, _ => .bad
def oGt : D → D → Ro → R D
  | .int i, .int j, ρ => .ok (.bl (decide (j < i))) ρ
  | _, _, _ => .bad
def oGe : D → D → Ro → R D
  | .int i, .int j, ρ => .ok (.bl (decide (j ≤ i))) ρ
  | _, _, _ => .bad
/-- a comparison, as a value and as a test -/
structure CmpR (X : Cx) (L : Lc) (op : CmpOp) (b : Expr) (om : D → D → Ro → R D) : Prop where
  ex : ∃ r : R2, OpR X (compareOp op) r ∧ Op2 X.K L r om
  mark : behindInMarks op b = false
theorem de_cmp {op : CmpOp} {om : D → D → Ro → R D} (c : CmpR X L op b om) (ha : DE X L a ma) (hb : DE X L b mb) : DE X L (.Compare a [op] [b] pos) (m2 om ma mb) :=
  let ⟨_, h1, h2⟩ := c.ex
  ⟨pe_to (pe_cmpR h1 ha.pe hb.pe c.mark) (lft_2 h2)⟩
def toT : D → Ro → R Bool
  | .bl b, ρ => .ok b ρ
  | _, _ => .bad
def mT (m : Ro → R D) : Ro → R Bool := fun ρ => (m ρ).bind toT
theorem lft_T {K : Frag} {m : Ro → R D} {t : TE} (ht : ∀ σ H Q, lft K L rE m σ H Q → t σ H Q) : ∀ σ H Q, lft K L rT (mT m) σ H Q → t σ H fun x H1 => ∃ c, x = .bl c ∧ Q c H1 := by
  intro σ H Q h
  refine ht σ H _ (lft_bind h fun v H1 F1 A1 B1 d ρ1 st dj en q p => ?_)
  cases d <;> first | exact p.elim | skip
  rename_i c
  exact ⟨c, q, p.val (A1 := A1) st (fun b x => .inl x) en rfl⟩
theorem dt_cmp {op : CmpOp} {om : D → D → Ro → R D} (c : CmpR X L op b om) (ha : DE X L a ma) (hb : DE X L b mb) : DT X L (.Compare a [op] [b] pos) (mT (m2 om ma mb)) :=
  let ⟨_, h1, h2⟩ := c.ex
  ⟨pt_to (pt_cmpR h1 ha.pe hb.pe c.mark) fun σ H Q h => lft_T (lft_2 h2) σ H Q h⟩
theorem dt_of {e : Expr} {m : Ro → R D} (h : DE X L e m) (he : ∀ whole, isTrue e X.env whole = (do let v ← whole; standAt e.pos; holding [v] (truthy v)) := by intro _; rfl) : DT X L e (mT m) :=
  ⟨pt_to (pt_val h.pe he) fun σ H Q h => lft_T (fun _ _ _ z => z) σ H Q h⟩
theorem cr_lt : CmpR X L .Lt b oLt := ⟨⟨_, op_lt, op2_int0 (f := fun i j => .bl (decide (i < j))) (fun d1 d2 ρ h => by cases d1 <;> cases d2 <;> first | exact ⟨_, _, rfl, rfl, rfl⟩ | exact absurd rfl h) fun _ _ => rfl⟩, nomark _⟩
theorem cr_le : CmpR X L .LtE b oLe := ⟨⟨_, op_le, op2_int0 (f := fun i j => .bl (decide (i ≤ j))) (fun d1 d2 ρ h => by cases d1 <;> cases d2 <;> first | exact ⟨_, _, rfl, rfl, rfl⟩ | exact absurd rfl h) fun _ _ => rfl⟩, nomark _⟩
theorem cr_gt : CmpR X L .Gt b oGt := ⟨⟨_, op_gt, op2_int0 (f := fun i j => .bl (decide (j < i))) (fun d1 d2 ρ h => by cases d1 <;> cases d2 <;> first | exact ⟨_, _, rfl, rfl, rfl⟩ | exact absurd rfl h) fun _ _ => rfl⟩, nomark _⟩
theorem cr_ge : CmpR X L .GtE b oGe := ⟨⟨_, op_ge, op2_int0 (f := fun i j => .bl (decide (j ≤ i))) (fun d1 d2 ρ h => by cases d1 <;> cases d2 <;> first | exact ⟨_, _, rfl, rfl, rfl⟩ | exact absurd rfl h) fun _ _ => rfl⟩, nomark _⟩
/-- a < b < c -/
def mChain (o1 o2 : D → D → Ro → R D) (ma mb mc : Ro → R D) : Ro → R D := fun ρ => (ma ρ).bind fun a ρ1 => (mb ρ1).bind fun b ρ2 => (o1 a b ρ2).bind fun x ρ3 => match x with
  | .bl true => (mc ρ3).bind fun c ρ4 => o2 b c ρ4
  | .bl false => .ok (.bl false) ρ3
  | _ => .bad
end
/-! ### equality of data -/
mutual
def toPy : D → Option PyData
  | .non => some .none
  | .bl b => some (.bool b)
  | .int i => some (.int i)
  | .str x => some (.str x)
  | .tup ds => (toPys ds).map .tuple
  | .lst _ ds => (toPys ds).map .list
  | _ => none
def toPys : List D → Option (List PyData)
  | [] => some []
  | d :: ds => match toPy d, toPys ds with
    | some x, some xs => some (x :: xs)
    | _, _ => none
end
section
variable {K : Frag} {cA : Cid → Addr} {F : FP} {H : Hp}
mutual
theorem Rep.dp : ∀ {d : D} {v : V} {A : FP} {x : PyData}, toPy d = some x → Rep K cA F H d v A → Dp K H v x
  | .non, _, _, _, e, h => by cases e; cases h; exact .non
  | .bl b, _, _, _, e, h => by cases e; cases h; exact .bl b
  | .int i, _, _, _, e, h => by cases e; cases h; exact .int i
  | .str y, _, _, _, e, h => by cases e; cases h; exact .str y
  | .tup ds, _, _, _, e, h => by
    obtain ⟨a, vs, rfl, t, r⟩ := h
    obtain ⟨xs, e1, rfl⟩ := Option.map_eq_some_iff.mp e
    exact .tup t.sq (Reps.dp e1 r)
  | .lst false ds, _, _, _, e, h => by
    obtain ⟨a, vs, rfl, t, r⟩ := h
    obtain ⟨xs, e1, rfl⟩ := Option.map_eq_some_iff.mp e
    exact .lst t.sq (Reps.dp e1 r)
  | .lst true ds, _, _, _, e, h => by
    obtain ⟨a, vs, A', rfl, t, m, s, r⟩ := h
    obtain ⟨xs, e1, rfl⟩ := Option.map_eq_some_iff.mp e
    exact .lst (SqL.of t) (Reps.dp e1 r)
  | .ty _, _, _, _, e, _ => by cases e
  | .cls _, _, _, _, e, _ => by cases e
  | .dK _ _ _, _, _, _, e, _ => by cases e
  | .dT _ _ _, _, _, _, e, _ => by cases e
  | .ins _ _ _ _, _, _, _, e, _ => by cases e
theorem Reps.dp : ∀ {ds : List D} {vs : List V} {A : FP} {xs : List PyData}, toPys ds = some xs → Reps K cA F H ds vs A → DpAll K H vs xs
  | [], _, _, _, e, h => by cases e; cases h; exact .nil
  | d :: ds, _, _, _, e, h => by
    obtain ⟨v, vs', A1, A2, rfl, s, r, rs⟩ := h
    unfold toPys at e
    split at e
    · rename_i x xs e1 e2
      cases e
      exact .cons (Rep.dp e1 r) (Reps.dp e2 rs)
    · cases e
end
end
mutual
theorem toPy_plain : ∀ {d : D} {x : PyData}, toPy d = some x → x.plain = true
  | .non, _, e => by cases e; rfl
  | .bl b, _, e => by cases e; rfl
  | .int i, _, e => by cases e; rfl
  | .str y, _, e => by cases e; rfl
  | .tup ds, _, e => by
    obtain ⟨xs, e1, rfl⟩ := Option.map_eq_some_iff.mp e
    exact toPys_plain e1
  | .lst _ ds, _, e => by
    obtain ⟨xs, e1, rfl⟩ := Option.map_eq_some_iff.mp e
    exact toPys_plain e1
  | .ty _, _, e => by cases e
  | .cls _, _, e => by cases e
  | .dK _ _ _, _, e => by cases e
  | .dT _ _ _, _, e => by cases e
  | .ins _ _ _ _, _, e => by cases e
theorem toPys_plain : ∀ {ds : List D} {xs : List PyData}, toPys ds = some xs → PyData.plainAll xs = true
  | [], _, e => by cases e; rfl
  | d :: ds, _, e => by
    unfold toPys at e
    split at e
    · rename_i x xs e1 e2
      cases e
      show (x.plain && PyData.plainAll xs) = true
      rw [toPy_plain e1, toPys_plain e2]
      rfl
    · cases e
end
/-- how deep lists and tuples stand in one another -/
def flat (d : PyData) : Bool := decide (d.depth ≤ 60)
def oEq : D → D → Ro → R D := fun x y ρ => match toPy x, toPy y with
  | some a, some b => if flat a || flat b then .ok (.bl (PyData.eqv a b)) ρ else .bad
  | _, _ => .bad
def oNe : D → D → Ro → R D := fun x y ρ => match toPy x, toPy y with
  | some a, some b => if flat a || flat b then .ok (.bl (!PyData.eqv a b)) ρ else .bad
  | _, _ => .bad

section
variable {X : Cx} {L : Lc} {pos : Pos} {a b : Expr} {ma mb : Ro → R D}
theorem flat_room {x y : PyData} {n : Nat} (h : (flat x || flat y) = true) (hu : n + 64 < cLine) : n + min x.depth y.depth < cLine := by
  unfold flat at h
  rw [Bool.or_eq_true] at h
  have h1 : min x.depth y.depth ≤ 60 := by
    rcases h with h | h
    · exact Nat.le_trans (Nat.min_le_left _ _) (of_decide_eq_true h)
    · exact Nat.le_trans (Nat.min_le_right _ _) (of_decide_eq_true h)
  omega
theorem op_eqP (hu : X.A.units + 64 < cLine) : OpR X (compareOp .Eq) (fun x y H Q => ∃ d e, Dp X.K H x d ∧ Dp X.K H y e ∧ d.plain = true ∧ e.plain = true ∧ (flat d || flat e) = true ∧ Q (.bl (PyData.eqv d e)) H) := by
  intro pins s σ H x y v u Q I rx ry h
  obtain ⟨d, e, hd, he, sd, se, fl, q⟩ := h
  obtain ⟨as, r1⟩ := Dp.reads I d x v hd rx
  obtain ⟨bs, r2⟩ := Dp.reads I e y u he ry
  exact SeqAt.eq_plain r1 r2 sd se (flat_room fl hu) ⟨.bl _, H, I, rfl, q⟩
theorem op_neP (hu : X.A.units + 64 < cLine) : OpR X (compareOp .NotEq) (fun x y H Q => ∃ d e, Dp X.K H x d ∧ Dp X.K H y e ∧ d.plain = true ∧ e.plain = true ∧ (flat d || flat e) = true ∧ Q (.bl (!PyData.eqv d e)) H) := by
  intro pins s σ H x y v u Q I rx ry h
  obtain ⟨d, e, hd, he, sd, se, fl, q⟩ := h
  obtain ⟨as, r1⟩ := Dp.reads I d x v hd rx
  obtain ⟨bs, r2⟩ := Dp.reads I e y u he ry
  exact SeqAt.ne_plain r1 r2 sd se (flat_room fl hu) ⟨.bl _, H, I, rfl, q⟩
theorem cr_eq (hu : X.A.units + 64 < cLine) : CmpR X L .Eq b oEq := ⟨⟨_, op_eqP hu, fun F A B1 B2 H σ Q d1 d2 v1 v2 ρ st dj dj' en q1 q2 p => by
  unfold oEq at p
  split at p
  · rename_i x y e1 e2
    split at p
    · rename_i hf
      exact ⟨x, y, Rep.dp e1 q1, Rep.dp e2 q2, toPy_plain e1, toPy_plain e2, hf, p.leaf (w := .bl _) rfl st (fun b x => .inl (.inl x)) en⟩
    · exact p.elim
  · exact p.elim⟩, nomark _⟩
theorem cr_ne (hu : X.A.units + 64 < cLine) : CmpR X L .NotEq b oNe := ⟨⟨_, op_neP hu, fun F A B1 B2 H σ Q d1 d2 v1 v2 ρ st dj dj' en q1 q2 p => by
  unfold oNe at p
  split at p
  · rename_i x y e1 e2
    split at p
    · rename_i hf
      exact ⟨x, y, Rep.dp e1 q1, Rep.dp e2 q2, toPy_plain e1, toPy_plain e2, hf, p.leaf (w := .bl _) rfl st (fun b x => .inl (.inl x)) en⟩
    · exact p.elim
  · exact p.elim⟩, nomark _⟩
/-! in, not in -/
def inPy : D → Option (List PyData)
  | .tup ds => toPys ds
  | .lst _ ds => toPys ds
  | _ => none
def flats (d : PyData) (xs : List PyData) : Bool := decide (d.depth ≤ 60) || decide (PyData.depthAll xs ≤ 60)
def inStr (i j : Str) : Bool := !(Builtin.Str.occurrences j i 0 j.length 1).isEmpty
def oIn : D → D → Ro → R D := fun x y ρ => match x, y with
  | .str i, .str j => .ok (.bl (inStr i j)) ρ
  | x, y => match toPy x, inPy y with
    | some d, some xs => if flats d xs then .ok (.bl (xs.any fun z => PyData.eqv z d)) ρ else .bad
    | _, _ => .bad
def oNotIn : D → D → Ro → R D := fun x y ρ => match x, y with
  | .str i, .str j => .ok (.bl (!inStr i j)) ρ
  | x, y => match toPy x, inPy y with
    | some d, some xs => if flats d xs then .ok (.bl (!xs.any fun z => PyData.eqv z d)) ρ else .bad
    | _, _ => .bad
theorem flats_room {x : PyData} {xs : List PyData} {n : Nat} (h : flats x xs = true) (hu : n + 64 < cLine) : n + 1 + min (PyData.depthAll xs) x.depth < cLine := by
  unfold flats at h
  rw [Bool.or_eq_true] at h
  have h1 : min (PyData.depthAll xs) x.depth ≤ 60 := by
    rcases h with h | h
    · exact Nat.le_trans (Nat.min_le_right _ _) (of_decide_eq_true h)
    · exact Nat.le_trans (Nat.min_le_left _ _) (of_decide_eq_true h)
  omega
inductive InD (K : Frag) (H : Hp) : V → List PyData → Prop
  | lst {v : V} {xs : List PyData} : Dp K H v (.list xs) → InD K H v xs
  | tup {v : V} {xs : List PyData} : Dp K H v (.tuple xs) → InD K H v xs
theorem Rep.inD {K : Frag} {cA : Cid → Addr} {F A : FP} {H : Hp} {d : D} {v : V} {xs : List PyData} (e : inPy d = some xs) (h : Rep K cA F H d v A) : InD K H v xs ∧ PyData.plainAll xs = true := by
  cases d with
  | tup ds =>
    have e : toPys ds = some xs := e
    exact ⟨.tup (Rep.dp (show toPy (.tup ds) = some (.tuple xs) from by simp [toPy, e]) h), toPys_plain e⟩
  | lst o ds =>
    have e : toPys ds = some xs := e
    exact ⟨.lst (Rep.dp (show toPy (.lst o ds) = some (.list xs) from by simp [toPy, e]) h), toPys_plain e⟩
  | _ => cases e
theorem op_inP (hu : X.A.units + 64 < cLine) : OpR X (compareOp .In) (fun x y H Q => ∃ d xs, Dp X.K H x d ∧ InD X.K H y xs ∧ d.plain = true ∧ PyData.plainAll xs = true ∧ flats d xs = true ∧ Q (.bl (xs.any fun z => PyData.eqv z d)) H) := by
  intro pins s σ H x y v u Q I rx ry h
  obtain ⟨d, xs, hd, he, sd, se, fl, q⟩ := h
  obtain ⟨as, r1⟩ := Dp.reads I d x v hd rx
  cases he with
  | lst he =>
    obtain ⟨bs, r2⟩ := Dp.reads I _ y u he ry
    exact SeqAt.in_list_data r2 r1 se sd (flats_room fl hu) ⟨.bl _, H, I, rfl, q⟩
  | tup he =>
    obtain ⟨bs, r2⟩ := Dp.reads I _ y u he ry
    exact SeqAt.in_tuple_data r2 r1 se sd (flats_room fl hu) ⟨.bl _, H, I, rfl, q⟩
theorem op_notInP (hu : X.A.units + 64 < cLine) : OpR X (compareOp .NotIn) (fun x y H Q => ∃ d xs, Dp X.K H x d ∧ InD X.K H y xs ∧ d.plain = true ∧ PyData.plainAll xs = true ∧ flats d xs = true ∧ Q (.bl (!xs.any fun z => PyData.eqv z d)) H) := by
  intro pins s σ H x y v u Q I rx ry h
  obtain ⟨d, xs, hd, he, sd, se, fl, q⟩ := h
  obtain ⟨as, r1⟩ := Dp.reads I d x v hd rx
  cases he with
  | lst he =>
    obtain ⟨bs, r2⟩ := Dp.reads I _ y u he ry
    exact SeqAt.notIn_list_data r2 r1 se sd (flats_room fl hu) ⟨.bl _, H, I, rfl, q⟩
  | tup he =>
    obtain ⟨bs, r2⟩ := Dp.reads I _ y u he ry
    exact SeqAt.notIn_tuple_data r2 r1 se sd (flats_room fl hu) ⟨.bl _, H, I, rfl, q⟩
theorem cr_in (hu : X.A.units + 64 < cLine) (hm : behindInMarks .In b = false := by rfl) : CmpR X L .In b oIn := ⟨⟨_, op_in_str.or (op_inP hu), fun F A B1 B2 H σ Q d1 d2 v1 v2 ρ st dj dj' en q1 q2 p => by
  unfold oIn at p
  split at p
  · rename_i i j
    exact .inl ⟨i, j, q1, q2, p.leaf (w := .bl _) rfl st (fun b x => .inl (.inl x)) en⟩
  · split at p
    · rename_i x y _ d xs e1 e2
      split at p
      · rename_i hf
        obtain ⟨z1, z2⟩ := Rep.inD e2 q2
        exact .inr ⟨d, xs, Rep.dp e1 q1, z1, toPy_plain e1, z2, hf, p.leaf (w := .bl _) rfl st (fun b x => .inl (.inl x)) en⟩
      · exact p.elim
    · exact p.elim⟩, hm⟩
theorem cr_notIn (hu : X.A.units + 64 < cLine) (hm : behindInMarks .NotIn b = false := by rfl) : CmpR X L .NotIn b oNotIn := ⟨⟨_, op_notin_str.or (op_notInP hu), fun F A B1 B2 H σ Q d1 d2 v1 v2 ρ st dj dj' en q1 q2 p => by
  unfold oNotIn at p
  split at p
  · rename_i i j
    exact .inl ⟨i, j, q1, q2, p.leaf (w := .bl _) rfl st (fun b x => .inl (.inl x)) en⟩
  · split at p
    · rename_i x y _ d xs e1 e2
      split at p
      · rename_i hf
        obtain ⟨z1, z2⟩ := Rep.inD e2 q2
        exact .inr ⟨d, xs, Rep.dp e1 q1, z1, toPy_plain e1, z2, hf, p.leaf (w := .bl _) rfl st (fun b x => .inl (.inl x)) en⟩
      · exact p.elim
    · exact p.elim⟩, hm⟩
/-! is None -/
def oIsN : D → Ro → R D
  | .non, ρ => .ok (.bl true) ρ
  | _, ρ => .ok (.bl false) ρ
def oNotN : D → Ro → R D
  | .non, ρ => .ok (.bl false) ρ
  | _, ρ => .ok (.bl true) ρ
def isN : D → Bool
  | .non => true
  | _ => false
theorem Rep.isN {K : Frag} {cA : Cid → Addr} {F A : FP} {H : Hp} {d : D} {v : V} (h : Rep K cA F H d v A) : decide (v = .non) = isN d := by
  cases d with
  | non => cases h; rfl
  | bl _ => cases h; rfl
  | int _ => cases h; rfl
  | str _ => cases h; rfl
  | ty _ => cases h; rfl
  | cls _ => cases h; rfl
  | tup _ => obtain ⟨a, vs, rfl, _⟩ := h; rfl
  | lst o _ => cases o <;> (first | (obtain ⟨a, vs, rfl, _⟩ := h; rfl) | (obtain ⟨a, vs, A', rfl, _⟩ := h; rfl))
  | dK o _ _ => cases o <;> (first | (obtain ⟨a, vs, rfl, _⟩ := h; rfl) | (obtain ⟨a, vs, A', rfl, _⟩ := h; rfl))
  | dT o _ _ => cases o <;> (first | (obtain ⟨a, vs, rfl, _⟩ := h; rfl) | (obtain ⟨a, vs, A', rfl, _⟩ := h; rfl))
  | ins o _ _ _ => cases o <;> (first | (obtain ⟨a, vs, dx, rfl, _⟩ := h; rfl) | (obtain ⟨a, vs, dx, A', rfl, _⟩ := h; rfl))
end
end T
end

section
set_option Elab.async false
set_option linter.all false
set_option maxRecDepth 100000
set_option maxHeartbeats 4000000
namespace T
open PySem PySem.Spec PyProof.Rows L2
section
variable {X : Cx} {L : Lc} {pos : Pos} {a b c : Expr} {ma mb mc : Ro → R D} {ta tb : Ro → R Bool}
def oIs : D → D → Ro → R D
  | d, .non, ρ => .ok (.bl (isN d)) ρ
  | _, _, _ => .bad
def oIsNot : D → D → Ro → R D
  | d, .non, ρ => .ok (.bl (!isN d)) ρ
  | _, _, _ => .bad
theorem cr_is : CmpR X L .Is b oIs := ⟨⟨_, op_isN, fun F A B1 B2 H σ Q d1 d2 v1 v2 ρ st dj dj' en q1 q2 p => by
  cases d2 <;> first | exact p.elim | skip
  exact ⟨q2, by rw [Rep.isN q1]; exact p.leaf (w := .bl _) rfl st (fun b x => .inl (.inl x)) en⟩⟩, nomark _⟩
theorem cr_isNot : CmpR X L .IsNot b oIsNot := ⟨⟨_, op_notN, fun F A B1 B2 H σ Q d1 d2 v1 v2 ρ st dj dj' en q1 q2 p => by
  cases d2 <;> first | exact p.elim | skip
  exact ⟨q2, by rw [Rep.isN q1]; exact p.leaf (w := .bl _) rfl st (fun b x => .inl (.inl x)) en⟩⟩, nomark _⟩
/-! ### tests -/
structure DW (X : Cx) (L : Lc) (e : Expr) (m : Ro → R Bool) : Prop where
  pw : PW X e (lft X.K L rT m)
def mAnd (t u : Ro → R Bool) : Ro → R Bool := fun ρ => (t ρ).bind fun c ρ1 => if c then u ρ1 else .ok false ρ1
def mOr (t u : Ro → R Bool) : Ro → R Bool := fun ρ => (t ρ).bind fun c ρ1 => if c then .ok true ρ1 else u ρ1
def mNot (t : Ro → R Bool) : Ro → R Bool := fun ρ => (t ρ).bind fun c ρ1 => .ok (!c) ρ1
theorem pw_to {X : Cx} {e : Expr} {t t' : TT} (h : PW X e t) (i : ∀ σ H Q, t' σ H Q → t σ H Q) : PW X e t' := ⟨fun wh pins s σ H Q I q => h.run wh pins s σ H Q I (i σ H Q q)⟩
theorem dw_and1 (h : DT X L a ta) : DW X L (.BoolOp .And [a] pos) ta := ⟨pw_and1 h.pt⟩
theorem dw_or1 (h : DT X L a ta) : DW X L (.BoolOp .Or [a] pos) ta := ⟨pw_or1 h.pt⟩
theorem lft_and {K : Frag} : ∀ σ H Q, lft K L rT (mAnd ta tb) σ H Q → tAnd (lft K L rT ta) (lft K L rT tb) σ H Q := by
  intro σ H Q h
  refine lft_bind h fun c H1 F1 A1 B1 c' ρ1 st dj en q p => ?_
  cases q
  cases c with
  | true => exact lft_go (m := tb) st en p
  | false => exact p.val (A1 := A1) st (fun b x => .inl x) en rfl
theorem lft_or {K : Frag} : ∀ σ H Q, lft K L rT (mOr ta tb) σ H Q → tOr (lft K L rT ta) (lft K L rT tb) σ H Q := by
  intro σ H Q h
  refine lft_bind h fun c H1 F1 A1 B1 c' ρ1 st dj en q p => ?_
  cases q
  cases c with
  | true => exact p.val (A1 := A1) st (fun b x => .inl x) en rfl
  | false => exact lft_go (m := tb) st en p
theorem dw_and {rest : List Expr} (h : DT X L a ta) (h2 : DW X L (.BoolOp .And (b :: rest) pos) tb) : DW X L (.BoolOp .And (a :: b :: rest) pos) (mAnd ta tb) := ⟨pw_to (pw_and h.pt h2.pw) lft_and⟩
theorem dw_or {rest : List Expr} (h : DT X L a ta) (h2 : DW X L (.BoolOp .Or (b :: rest) pos) tb) : DW X L (.BoolOp .Or (a :: b :: rest) pos) (mOr ta tb) := ⟨pw_to (pw_or h.pt h2.pw) lft_or⟩
theorem dt_w {e : Expr} {m : Ro → R Bool} (h : DW X L e m) : DT X L e m := ⟨PW.pt h.pw⟩
theorem dt_not (h : DT X L a ta) : DT X L (.UnaryOp .Not a pos) (mNot ta) := ⟨pt_to (pt_not h.pt) fun σ H Q h => by
  refine lft_bind h fun c H1 F1 A1 B1 c' ρ1 st dj en q p => ?_
  cases q
  exact p.val (A1 := A1) st (fun b x => .inl x) en rfl⟩
/-! ### and, or, not as values -/
def mAndV (ma mb : Ro → R D) : Ro → R D := fun ρ => (ma ρ).bind fun d ρ1 => match d with
  | .bl true => mb ρ1
  | .bl false => .ok (.bl false) ρ1
  | _ => .bad
def mOrV (ma mb : Ro → R D) : Ro → R D := fun ρ => (ma ρ).bind fun d ρ1 => match d with
  | .bl true => .ok (.bl true) ρ1
  | .bl false => mb ρ1
  | _ => .bad
def oNot : D → Ro → R D
  | .bl b, ρ => .ok (.bl (!b)) ρ
  | _, _ => .bad
theorem de_one {op : BoolOp} (h : DE X L a ma) : DE X L (.BoolOp op [a] pos) ma := ⟨pe_one h.pe⟩
theorem de_and {rest : List Expr} (ha : DE X L a ma) (hb : DE X L (.BoolOp .And (b :: rest) pos) mb) : DE X L (.BoolOp .And (a :: b :: rest) pos) (mAndV ma mb) := ⟨pe_to (pe_and ha.pe hb.pe) fun σ H Q h => by
  refine lft_bind h fun v H1 F1 A1 B1 d ρ1 st dj en q p => ?_
  cases d <;> first | exact p.elim | skip
  rename_i c
  refine ⟨c, q, ?_⟩
  cases c with
  | true => exact lft_go (m := mb) st en p
  | false => exact p.leaf (w := .bl false) rfl st (fun b x => .inl x) en⟩
theorem de_or {rest : List Expr} (ha : DE X L a ma) (hb : DE X L (.BoolOp .Or (b :: rest) pos) mb) : DE X L (.BoolOp .Or (a :: b :: rest) pos) (mOrV ma mb) := ⟨pe_to (pe_or ha.pe hb.pe) fun σ H Q h => by
  refine lft_bind h fun v H1 F1 A1 B1 d ρ1 st dj en q p => ?_
  cases d <;> first | exact p.elim | skip
  rename_i c
  refine ⟨c, q, ?_⟩
  cases c with
  | true => exact p.leaf (w := .bl true) rfl st (fun b x => .inl x) en
  | false => exact lft_go (m := mb) st en p⟩
theorem de_not (ha : DE X L a ma) : DE X L (.UnaryOp .Not a pos) (m1 oNot ma) := ⟨pe_to (pe_not ha.pe) fun σ H Q h => by
  refine lft_bind h fun v H1 F1 A1 B1 d ρ1 st dj en q p => ?_
  cases d <;> first | exact p.elim | skip
  rename_i c
  exact ⟨c, q, p.leaf (w := .bl _) rfl st (fun b x => .inl x) en⟩⟩
/-- a if t else b -/
def mIf {α : Type} (t : Ro → R Bool) (m n : Ro → R α) : Ro → R α := fun ρ => (t ρ).bind fun c ρ1 => if c then m ρ1 else n ρ1
theorem de_if (hc : DT X L c ta) (ha : DE X L a ma) (hb : DE X L b mb) : DE X L (.IfExp c a b pos) (mIf ta ma mb) := ⟨pe_to (pe_ifExp hc.pt ha.pe hb.pe) fun σ H Q h => by
  refine lft_bind h fun c H1 F1 A1 B1 c' ρ1 st dj en q p => ?_
  cases q
  cases c with
  | true => exact lft_go (m := ma) st en p
  | false => exact lft_go (m := mb) st en p⟩
/-! ### arguments, displays -/
def mNil : Ro → R (List D) := fun ρ => .ok [] ρ
def mCons (m : Ro → R D) (ms : Ro → R (List D)) : Ro → R (List D) := fun ρ => (m ρ).bind fun d ρ1 => (ms ρ1).bind fun ds ρ2 => .ok (d :: ds) ρ2
theorem da_nil : DA X L [] mNil := ⟨pa_to pa_nil fun σ H Q ⟨ρ, F, A, st, en, p⟩ => p.val (A1 := A) st (fun b x => x) en rfl⟩
theorem da_cons {e : Expr} {es : List Expr} {m : Ro → R D} {ms : Ro → R (List D)} (ha : DE X L e m) (hr : DA X L es ms) (hs : starEach (e :: es) X.env = (false, eval e X.env) :: starEach es X.env := by rfl) : DA X L (e :: es) (mCons m ms) := ⟨pa_to (pa_cons ha.pe hr.pa hs) fun σ H Q h => by
  refine lft_bind h fun v H1 F1 A1 B1 d ρ1 st dj en q p => ?_
  refine lft_rest st dj en p fun vs H2 F2 A2 B2 ds ρ2 st2 dj2 dj2' en2 q2 fr kb p2 => ?_
  refine p2.ret (A1 := A2) (B := un B1 B2) st2 (fun b x => x.elim (fun x => .inl (.inl x)) fun x => x.elim .inr fun x => .inl (.inr x)) (fun b x y => y.elim (dj2' b (.inl x)) (dj2 b x)) en2 ?_
  exact ⟨v, vs, B1, B2, rfl, ⟨fun b x => .inl x, fun b x => .inr x, fun b x y => dj2' b (.inr y) x⟩, q.move fr kb fun _ x => x, q2⟩⟩
def szOk (n : Nat) : Bool := decide (n ≤ sizeLine)
def oTup : List D → Ro → R D := fun ds ρ => if szOk ds.length then .ok (.tup ds) ρ else .bad
def oLst : List D → Ro → R D := fun ds ρ => if szOk ds.length then .ok (.lst true ds) ρ else .bad
def mN (op : List D → Ro → R D) (ms : Ro → R (List D)) : Ro → R D := fun ρ => (ms ρ).bind op
theorem Reps.len {K : Frag} {cA : Cid → Addr} {F : FP} {H : Hp} : ∀ {ds : List D} {vs : List V} {A : FP}, Reps K cA F H ds vs A → ds.length = vs.length
  | [], _, _, h => by cases h; rfl
  | d :: ds, _, _, h => by
    obtain ⟨v, vs', A1, A2, rfl, s, r, rs⟩ := h
    exact congrArg (· + 1) rs.len
/-- a new object that is owned -/
theorem new_step {F A : FP} {H : Hp} {p : Addr} {o : HO} (st : Sta F A H) (np : H p = none) (nt : ∀ vs, o ≠ .tup vs) : Step F A H F (un A (· = p)) (upd H p o) where
  keep := fun b u e _ => by rw [upd_ne (ne_of_none e np)]; exact e
  live := fun b e => by
    by_cases h : b = p
    · rw [h, upd_same]; exact fun z => nomatch z
    · rw [upd_ne h]; exact e
  fr := fun _ x => x
  fnew := fun _ x => .inl x
  anew := fun b x => x.imp id fun x => by rw [x]; exact np
  sta := ⟨fun b x y => x.elim (fun x => st.dj b x y) fun x => st.dom b (.inl y) (by rw [x]; exact np), fun b x => by
    by_cases h : b = p
    · rw [h, upd_same]; exact fun z => nomatch z
    · rw [upd_ne h]; exact st.dom b (x.imp id fun x => x.elim id fun x => absurd x h), fun b vs x => by
    by_cases h : b = p
    · rw [h, upd_same]; exact fun z => nt vs (Option.some.inj z)
    · rw [upd_ne h]; exact st.nt b vs (x.elim id fun x => absurd x h)⟩
/-- a new object that is frozen -/
theorem newF_step {F A : FP} {H : Hp} {p : Addr} {o : HO} (st : Sta F A H) (np : H p = none) : Step F A H (un F (· = p)) A (upd H p o) where
  keep := fun b u e _ => by rw [upd_ne (ne_of_none e np)]; exact e
  live := fun b e => by
    by_cases h : b = p
    · rw [h, upd_same]; exact fun z => nomatch z
    · rw [upd_ne h]; exact e
  fr := fun _ x => .inl x
  fnew := fun b x => x.elim .inl fun x => .inr (.inr (by rw [x]; exact np))
  anew := fun b x => .inl x
  sta := ⟨fun b x y => y.elim (st.dj b x) fun y => st.dom b (.inr x) (by rw [y]; exact np), fun b x => by
    by_cases h : b = p
    · rw [h, upd_same]; exact fun z => nomatch z
    · rw [upd_ne h]; exact st.dom b (x.imp (fun x => x.elim id fun x => absurd x h) id), fun b vs x => by
    have h : b ≠ p := fun z => st.dom b (.inr x) (by rw [z]; exact np)
    rw [upd_ne h]; exact st.nt b vs x⟩
theorem new_keep {H : Hp} {p : Addr} {o : HO} (np : H p = none) : ∀ b u, H b = some u → upd H p o b = some u := fun b u e => by rw [upd_ne (ne_of_none e np)]; exact e
theorem end_lst {K : Frag} {F A B : FP} {H : Hp} {σ : L2.St} {Q : VK} {ds : List D} {vs : List V} {ρ : Ro} {p : Addr} (st : Sta F (un A B) H) (dj : Dj A B) (en : EnvL K L F H ρ σ A) (q : Reps K L.cA F H ds vs B) (np : H p = none)
    (po : Post K L rE F (un A B) H σ Q (.ok (.lst true ds) ρ)) : Q (.ref p) (upd H p (.lst vs)) := by
  have s := new_step (o := .lst vs) st np (fun _ z => nomatch z)
  have nB : ∀ b, A b ∨ B b → b ≠ p := fun b x z => st.dom b (.inr x) (by rw [z]; exact np)
  refine po _ _ F A (un B (· = p)) (s.sub fun b x => x.elim (fun x => .inl (.inl x)) fun x => x.elim (fun x => .inl (.inr x)) .inr) (fun b x y => y.elim (dj b x) (nB b (.inl x))) (en.move (fun _ x => x) (fun b o _ e => new_keep np b o e) fun _ x => x) ?_
  exact ⟨p, vs, B, rfl, upd_same, .inr rfl, fun b x => ⟨.inl x, nB b (.inr x)⟩, q.move (fun _ x => x) (fun b o _ e => new_keep np b o e) fun _ x => x⟩
theorem end_tup {K : Frag} {F A B : FP} {H : Hp} {σ : L2.St} {Q : VK} {ds : List D} {vs : List V} {ρ : Ro} {p : Addr} (st : Sta F (un A B) H) (dj : Dj A B) (en : EnvL K L F H ρ σ A) (q : Reps K L.cA F H ds vs B) (np : H p = none)
    (po : Post K L rE F (un A B) H σ Q (.ok (.tup ds) ρ)) : Q (.ref p) (upd H p (.tup vs)) := by
  have s := newF_step (o := .tup vs) st np
  refine po _ _ (un F (· = p)) A B s dj (en.move (fun _ x => .inl x) (fun b o _ e => new_keep np b o e) fun _ x => x) ?_
  exact ⟨p, vs, rfl, .inl ⟨upd_same, .inr rfl⟩, q.move (fun _ x => .inl x) (fun b o _ e => new_keep np b o e) fun _ x => x⟩
theorem de_lst {es : List Expr} {ms : Ro → R (List D)} (h : DA X L es ms) : DE X L (.List es pos) (mN oLst ms) := ⟨pe_to (pe_lst h.pa) fun σ H Q h => by
  refine lft_bind h fun vs H1 F1 A1 B1 ds ρ1 st dj en q p => ?_
  unfold oLst at p
  split at p
  · rename_i z
    refine ⟨by rw [← q.len]; exact of_decide_eq_true z, fun l np => end_lst st dj en q np p⟩
  · exact p.elim⟩
theorem de_tup {es : List Expr} {ms : Ro → R (List D)} {x1} (h : DA X L es ms) : DE X L (.Tuple es x1 pos) (mN oTup ms) := ⟨pe_to (pe_tup h.pa) fun σ H Q h => by
  refine lft_bind h fun vs H1 F1 A1 B1 ds ρ1 st dj en q p => ?_
  unfold oTup at p
  split at p
  · rename_i z
    refine ⟨by rw [← q.len]; exact of_decide_eq_true z, fun l np => end_tup st dj en q np p⟩
  · exact p.elim⟩
/-! ### a value that is only looked at -/
mutual
/-- no mutable node that is shared -/
def clean : D → Bool
  | .non => true
  | .bl _ => true
  | .int _ => true
  | .str _ => true
  | .ty _ => true
  | .cls _ => true
  | .tup ds => cleans ds
  | .lst o ds => o && cleans ds
  | .dK o _ ds => o && cleans ds
  | .dT o _ ds => o && cleans ds
  | .ins o _ _ ds => o && cleans ds
def cleans : List D → Bool
  | [] => true
  | d :: ds => clean d && cleans ds
end
def mB {α : Type} (cl : α → Bool) (m : Ro → R α) : Ro → R α := fun ρ => match m (ρ.map fzo) with
  | .ok d _ => if cl d then .ok d ρ else .bad
  | .exc x ρ' => .exc x ρ'
  | .bad => .bad
section
variable {K : Frag} {cA : Cid → Addr} {F F' : FP} {H : Hp}
mutual
theorem Rep.clean (k : ∀ a vs, F a → H a = some (.tup vs) → F' a) : ∀ {d : D} {v : V} {A : FP}, clean d = true → Rep K cA F H d v A → Rep K cA F' H d v A
  | .non, _, _, _, h => h
  | .bl _, _, _, _, h => h
  | .int _, _, _, _, h => h
  | .str _, _, _, _, h => h
  | .ty _, _, _, _, h => h
  | .cls _, _, _, _, h => h
  | .tup ds, _, _, c, h => by
    obtain ⟨a, vs, e, t, r⟩ := h
    refine ⟨a, vs, e, ?_, Reps.clean k c r⟩
    rcases t with ⟨t, f⟩ | t
    · exact .inl ⟨t, k a vs f t⟩
    · exact .inr t
  | .lst false ds, _, _, c, h => by cases c
  | .lst true ds, _, _, c, h => by
    obtain ⟨a, vs, A', e, t, m, s, r⟩ := h
    exact ⟨a, vs, A', e, t, m, s, Reps.clean k c r⟩
  | .dK false ks ds, _, _, c, h => by cases c
  | .dK true ks ds, _, _, c, h => by
    obtain ⟨a, vs, A', e, t, l, m, s, r⟩ := h
    exact ⟨a, vs, A', e, t, l, m, s, Reps.clean k c r⟩
  | .dT false ks ds, _, _, c, h => by cases c
  | .dT true ks ds, _, _, c, h => by
    obtain ⟨a, vs, A', e, t, l, m, s, r⟩ := h
    exact ⟨a, vs, A', e, t, l, m, s, Reps.clean k c r⟩
  | .ins false _ _ ds, _, _, c, h => by cases c
  | .ins true _ fs ds, _, _, c, h => by
    obtain ⟨a, vs, dx, A', e, t, l, m, s, r⟩ := h
    exact ⟨a, vs, dx, A', e, t, l, m, s, Reps.clean k c r⟩
theorem Reps.clean (k : ∀ a vs, F a → H a = some (.tup vs) → F' a) : ∀ {ds : List D} {vs : List V} {A : FP}, cleans ds = true → Reps K cA F H ds vs A → Reps K cA F' H ds vs A
  | [], _, _, _, h => h
  | d :: ds, _, _, c, h => by
    obtain ⟨v, vs', A1, A2, e, s, r, rs⟩ := h
    have c' := Bool.and_eq_true_iff.mp c
    exact ⟨v, vs', A1, A2, e, s, Rep.clean k c'.1 r, Reps.clean k c'.2 rs⟩
end
end
theorem EnvR.map_len {ρ : Ro} : (ρ.map fzo).length = ρ.length := by simp
theorem lft_B {K : Frag} {α β : Type} {rel : Rel α β} {cl : α → Bool} {m : Ro → R α} (hcl : ∀ (F F' A : FP) (H : Hp) a y, (∀ a vs, F a → H a = some (.tup vs) → F' a) → cl a = true → rel K L.cA F H a y A → rel K L.cA F' H a y A) :
    ∀ σ H Q, lft K L rel (mB cl m) σ H Q → lft K L rel m σ H Q := by
  rintro σ H Q ⟨ρ, F, A, st, en, p⟩
  have st0 : Sta (un F A) no H := ⟨fun _ z => z.elim, fun b x => st.dom b (x.elim id False.elim), fun _ _ z => z.elim⟩
  refine ⟨ρ.map fzo, un F A, no, st0, ⟨en.env.fz (fun _ x => .inr x) fun _ x => .inl x, en.pin⟩, ?_⟩
  unfold mB at p
  cases e : m (ρ.map fzo) with
  | bad => rw [e] at p; exact p
  | exc x ρ' =>
    rw [e] at p
    intro c dd H1 F1 A1 s en1 q
    refine p c dd H1 F1 A1 ⟨fun b o e n => s.keep b o e fun z => z, s.live, fun b x => s.fr b (.inl x), fun b x => ?_, fun b x => (s.anew b x).elim False.elim .inr, s.sta⟩ en1 q
    rcases s.fnew b x with (x | x) | x | x
    · exact .inl x
    · exact .inr (.inl x)
    · exact x.elim
    · exact .inr (.inr x)
  | ok d ρ' =>
    rw [e] at p
    by_cases hc : cl d = true
    · have p : Post K L rel F A H σ Q (.ok d ρ) := by simpa [hc] using p
      intro y H1 F1 A1 B s dj en1 q
      have kp : ∀ b o, H b = some o → H1 b = some o := fun b o e => s.keep b o e fun z => z
      have nA : ∀ b, A b → ∀ vs, H1 b ≠ some (.tup vs) := fun b x vs z => by
        cases e : H b with
        | none => exact st.dom b (.inr x) e
        | some o =>
          rw [kp b o e] at z
          exact st.nt b vs x (e.trans z)
      refine p y H1 (fun b => F1 b ∧ ¬ A b) A B ⟨fun b o e _ => kp b o e, s.live, fun b x => ⟨s.fr b (.inl x), fun z => st.dj b z x⟩, fun b x => ?_, fun b x => x.elim .inl fun x => ?_, ⟨fun b x y => x.elim y.2 fun x => s.sta.dj b (.inr x) y.1, fun b x => ?_, fun b vs x => x.elim (fun x => nA b x vs) fun x => s.sta.nt b vs (.inr x)⟩⟩ (fun b x z => ?_)
        ⟨en.env.move (fun b x => ⟨s.fr b (.inl x), fun z => st.dj b z x⟩) (fun b o _ e => kp b o e) fun _ x => x, en.pin⟩ (hcl _ _ _ _ _ _ (fun a vs f t => ⟨f, fun z => nA a z vs t⟩) hc q)
      · rcases s.fnew b x.1 with (z | z) | z | z
        · exact .inl z
        · exact .inr (.inl z)
        · exact z.elim
        · exact .inr (.inr z)
      · exact (s.anew b (.inr x)).elim False.elim .inr
      · rcases x with x | x | x
        · exact s.sta.dom b (.inl x.1)
        · exact s.live b (st.dom b (.inr x))
        · exact s.sta.dom b (.inr (.inr x))
      · exact (s.anew b (.inr z)).elim False.elim (st.dom b (.inr x))
    · have p : Post K L rel F A H σ Q R.bad := by simpa [hc] using p
      exact p.elim
theorem de_b {e : Expr} {m : Ro → R D} (h : DE X L e m) : DE X L e (mB clean m) := ⟨pe_to h.pe (lft_B fun _ _ _ _ _ _ k c r => Rep.clean k c r)⟩
theorem da_b {e : List Expr} {m : Ro → R (List D)} (h : DA X L e m) : DA X L e (mB cleans m) := ⟨pa_to h.pa (lft_B fun _ _ _ _ _ _ k c r => Reps.clean k c r)⟩
def yes {α : Type} : α → Bool := fun _ => true
theorem dt_b {e : Expr} {m : Ro → R Bool} (h : DT X L e m) : DT X L e (mB yes m) := ⟨pt_to h.pt (lft_B fun _ _ _ _ _ _ _ _ r => r)⟩
end
end T
end

section
set_option Elab.async false
set_option linter.all false
set_option maxRecDepth 100000
set_option maxHeartbeats 4000000
namespace T
open PySem PySem.Spec PyProof.Rows L2
/-! ### statements -/
inductive RS where
  | bad
  | nx (ρ : Ro)
  | ret (d : D) (ρ : Ro)
  | bk (ρ : Ro)
  | ct (ρ : Ro)
  | exc (x : Exn) (ρ : Ro)
section
variable (K : Frag) (L : Lc)
def nxP (F A : FP) (H : Hp) (Q : L2.St → Hp → Prop) (ρ' : Ro) : Prop := ∀ σ' H' F' A', Step F A H F' A' H' → EnvL K L F' H' ρ' σ' A' → Q σ' H'
def PostS (F A : FP) (H : Hp) (D : Ends) : RS → Prop
  | .bad => False
  | .nx ρ' => nxP K L F A H D.nx ρ'
  | .bk ρ' => nxP K L F A H D.bk ρ'
  | .ct ρ' => nxP K L F A H D.ct ρ'
  | .ret d ρ' => ∀ v σ' H' F' A' B, Step F A H F' (un A' B) H' → Dj A' B → EnvL K L F' H' ρ' σ' A' → Rep K L.cA F' H' d v B → D.rt v H'
  | .exc x ρ' => ∀ c dd σ' H' F' A', Step F A H F' A' H' → EnvL K L F' H' ρ' σ' A' → ExcR K L.cA F' H' x c dd → L.W c dd σ' H'
def lftS (m : Ro → RS) : TS := fun D σ H => ∃ ρ F A, Sta F A H ∧ EnvL K L F H ρ σ A ∧ PostS K L F A H D (m ρ)
end
section
variable {K : Frag} {L : Lc}
theorem nxP.step {F A F1 A1 : FP} {H H1 : Hp} {Q : L2.St → Hp → Prop} {ρ : Ro} (s : Step F A H F1 A1 H1) (h : nxP K L F A H Q ρ) : nxP K L F1 A1 H1 Q ρ := fun σ' H' F' A' t e => h σ' H' F' A' (s.trans t) e
theorem PostS.step {F A F1 A1 : FP} {H H1 : Hp} {D : Ends} {r : RS} (s : Step F A H F1 A1 H1) (h : PostS K L F A H D r) : PostS K L F1 A1 H1 D r := by
  cases r with
  | bad => exact h
  | nx ρ => exact nxP.step s h
  | bk ρ => exact nxP.step s h
  | ct ρ => exact nxP.step s h
  | ret d ρ => exact fun v σ' H' F' A' B t dj e q => h v σ' H' F' A' B (s.trans t) dj e q
  | exc x ρ => exact fun c dd σ' H' F' A' t e q => h c dd σ' H' F' A' (s.trans t) e q
theorem PostS.sub {F A A1 : FP} {H : Hp} {D : Ends} {r : RS} (st : Sta F A H) (hs : ∀ b, A1 b → A b) (h : PostS K L F A H D r) : PostS K L F A1 H D r := h.step ((Step.refl st).sub hs)
/-- an end here -/
theorem nxP.here {F A A1 : FP} {H : Hp} {Q : L2.St → Hp → Prop} {ρ : Ro} {σ : L2.St} (h : nxP K L F A H Q ρ) (st : Sta F A H) (hs : ∀ b, A1 b → A b) (en : EnvL K L F H ρ σ A1) : Q σ H := h σ H F A1 ((Step.refl st).sub hs) en
/-- from an expression to what follows -/
def bS {α : Type} (r : R α) (f : α → Ro → RS) : RS := match r with
  | .bad => .bad
  | .ok a ρ => f a ρ
  | .exc x ρ => .exc x ρ
theorem lftS_bind {α β : Type} {rel : Rel α β} {m : Ro → R α} {f : α → Ro → RS} {σ : L2.St} {H : Hp} {D : Ends} {Q' : β → Hp → Prop} (h : lftS K L (fun ρ => bS (m ρ) f) D σ H)
    (k : ∀ y H1 F1 A1 B a ρ1, Sta F1 (un A1 B) H1 → Dj A1 B → EnvL K L F1 H1 ρ1 σ A1 → rel K L.cA F1 H1 a y B → PostS K L F1 (un A1 B) H1 D (f a ρ1) → Q' y H1) : lft K L rel m σ H Q' := by
  obtain ⟨ρ, F, A, st, en, p⟩ := h
  refine ⟨ρ, F, A, st, en, ?_⟩
  change PostS K L F A H D (bS (m ρ) f) at p
  cases e : m ρ with
  | bad => rw [e] at p; exact p
  | ok a ρ1 =>
    rw [e] at p
    intro y H1 F1 A1 B s d en1 q
    exact k y H1 F1 A1 B a ρ1 s.sta d en1 q (PostS.step s p)
  | exc x ρ1 =>
    rw [e] at p
    exact fun c dd H1 F1 A1 s en1 q => p c dd σ H1 F1 A1 s en1 q
theorem lftS_rest {α β : Type} {rel : Rel α β} {m : Ro → R α} {f : α → Ro → RS} {σ : L2.St} {D : Ends} {Q' : β → Hp → Prop} {H0 : Hp} {F0 A0 B0 : FP} {ρ0 : Ro}
    (st : Sta F0 (un A0 B0) H0) (d0 : Dj A0 B0) (en : EnvL K L F0 H0 ρ0 σ A0) (p : PostS K L F0 (un A0 B0) H0 D (bS (m ρ0) f))
    (k : ∀ y H1 F1 A1 B a ρ1, Sta F1 (un (un A1 B) B0) H1 → Dj A1 B → Dj (un A1 B) B0 → EnvL K L F1 H1 ρ1 σ A1 → rel K L.cA F1 H1 a y B → (∀ b, F0 b → F1 b) → (∀ b o, F0 b ∨ B0 b → H0 b = some o → H1 b = some o) → PostS K L F1 (un (un A1 B) B0) H1 D (f a ρ1) → Q' y H1) : lft K L rel m σ H0 Q' := by
  refine ⟨ρ0, F0, A0, st.sub fun b x => .inl x, en, ?_⟩
  have s0 := Step.refl st
  cases e : m ρ0 with
  | bad => rw [e] at p; exact p
  | ok a ρ1 =>
    rw [e] at p
    intro y H1 F1 A1 B s d en1 q
    obtain ⟨s1, d1, kb⟩ := s0.seq d0 s
    exact k y H1 F1 A1 B a ρ1 s1.sta d d1 en1 q s.fr kb (PostS.step s1 p)
  | exc x ρ1 =>
    rw [e] at p
    intro c dd H1 F1 A1 s en1 q
    obtain ⟨s1, d1, kb⟩ := s0.seq d0 s
    exact p c dd σ H1 F1 A1 (s1.sub fun b x => .inl x) en1 q
theorem lftS_go {m : Ro → RS} {σ : L2.St} {H : Hp} {D : Ends} {F A A1 : FP} {ρ : Ro} (st : Sta F A H) (hs : ∀ b, A1 b → A b) (en : EnvL K L F H ρ σ A1) (p : PostS K L F A H D (m ρ)) : lftS K L m D σ H :=
  ⟨ρ, F, A1, st.sub hs, en, PostS.sub st hs p⟩
end
structure DS (X : Cx) (L : Lc) (st : Stmt) (m : Ro → RS) : Prop where
  ps : PS X st (lftS X.K L m)
structure DB (X : Cx) (L : Lc) (sts : List Stmt) (m : Ro → RS) : Prop where
  ps : PSs X sts (lftS X.K L m)
theorem pss_to {X : Cx} {e : List Stmt} {t t' : TS} (h : PSs X e t) (i : ∀ D σ H, t' D σ H → t D σ H) : PSs X e t' := ⟨fun pins s σ H D I q => h.run pins s σ H D I (i D σ H q)⟩
def mNx : Ro → RS := fun ρ => .nx ρ
def mSeq (m n : Ro → RS) : Ro → RS := fun ρ => match m ρ with
  | .nx ρ1 => n ρ1
  | r => r
def mRet (m : Ro → R D) : Ro → RS := fun ρ => bS (m ρ) .ret
def mDrop (m : Ro → R D) : Ro → RS := fun ρ => bS (m ρ) fun _ ρ1 => .nx ρ1
def mIfS (t : Ro → R Bool) (m n : Ro → RS) : Ro → RS := fun ρ => bS (t ρ) fun c ρ1 => if c then m ρ1 else n ρ1
section
variable {X : Cx} {L : Lc} {pos : Pos} {e c : Expr} {st : Stmt} {rest p q : List Stmt} {m : Ro → R D} {t : Ro → R Bool} {ms ns : Ro → RS}
theorem db_nil : DB X L [] mNx := ⟨pss_to pss_nil fun D σ H ⟨ρ, F, A, st, en, p⟩ => nxP.here p st (fun _ x => x) en⟩
theorem db_cons (h1 : DS X L st ms) (h2 : DB X L rest ns) : DB X L (st :: rest) (mSeq ms ns) := ⟨pss_to (pss_cons h1.ps h2.ps) fun D σ H ⟨ρ, F, A, st, en, p⟩ => by
  refine ⟨ρ, F, A, st, en, ?_⟩
  unfold mSeq at p
  cases e : ms ρ with
  | nx ρ1 =>
    rw [e] at p
    exact fun σ' H' F' A' s en' => ⟨ρ1, F', A', s.sta, en', PostS.step s p⟩
  | bad => rw [e] at p; exact p
  | ret d ρ1 => rw [e] at p; exact p
  | bk ρ1 => rw [e] at p; exact p
  | ct ρ1 => rw [e] at p; exact p
  | exc x ρ1 => rw [e] at p; exact p⟩
theorem db_one (h1 : DS X L st ms) : DB X L [st] ms := ⟨pss_one h1.ps⟩
theorem ds_pass : DS X L (.Pass pos) mNx := ⟨ps_to ps_pass fun D σ H ⟨ρ, F, A, st, en, p⟩ => nxP.here p st (fun _ x => x) en⟩
theorem ds_break : DS X L (.Break pos) (fun ρ => .bk ρ) := ⟨ps_to ps_break fun D σ H ⟨ρ, F, A, st, en, p⟩ => nxP.here p st (fun _ x => x) en⟩
theorem ds_continue : DS X L (.Continue pos) (fun ρ => .ct ρ) := ⟨ps_to ps_continue fun D σ H ⟨ρ, F, A, st, en, p⟩ => nxP.here p st (fun _ x => x) en⟩
theorem ds_doc {x j pos'} : DS X L (.Expr (.Constant (.str x) j pos) pos') mNx := ⟨ps_to ps_doc fun D σ H ⟨ρ, F, A, st, en, p⟩ => nxP.here p st (fun _ x => x) en⟩
theorem ds_expr (h : DE X L e m) (hs : swapsWith e none pos.line X.env = pure false := by rfl) : DS X L (.Expr e pos) (mDrop m) := ⟨ps_to (ps_expr h.pe hs) fun D σ H h => by
  refine lftS_bind h fun y H1 F1 A1 B a ρ1 st dj en q p => ?_
  exact nxP.here p st (fun b x => .inl x) en⟩
theorem ds_ret (h : DE X L e m) : DS X L (.Return (some e) pos) (mRet m) := ⟨ps_to (ps_ret h.pe) fun D σ H h => by
  refine lftS_bind h fun y H1 F1 A1 B a ρ1 st dj en q p => ?_
  exact p y σ H1 F1 A1 B (Step.refl st) dj en q⟩
theorem ds_retN : DS X L (.Return none pos) (fun ρ => .ret .non ρ) := ⟨ps_to ps_retN fun D σ H ⟨ρ, F, A, st, en, p⟩ => p .non σ H F A no ((Step.refl st).sub fun b x => x.elim id False.elim) (fun _ _ z => z.elim) en rfl⟩
theorem ds_if (hc : DT X L c t) (hp : DB X L p ms) (hq : DB X L q ns) : DS X L (.If c p q pos) (mIfS t ms ns) := ⟨ps_to (ps_if hc.pt hp.ps hq.ps) fun D σ H h => by
  refine lftS_bind h fun y H1 F1 A1 B a ρ1 st dj en r po => ?_
  cases r
  cases y with
  | true => exact lftS_go (m := ms) st (fun b x => .inl x) en po
  | false => exact lftS_go (m := ns) st (fun b x => .inl x) en po⟩
end
/-! ### targets -/
/-- slots but sl are as they were -/
def Agr (sl : List Nat) (σ σ' : L2.St) : Prop := σ'.length = σ.length ∧ ∀ j, j ∉ sl → σ'[j]? = σ[j]?
def PostG (K : Frag) (L : Lc) (sl : List Nat) (σ : L2.St) (F A : FP) (H : Hp) (Q : L2.St → Hp → Prop) : Option Ro → Prop
  | none => False
  | some ρ' => ∀ σ' H' F' A', Agr sl σ σ' → Step F A H F' A' H' → EnvL K L F' H' ρ' σ' A' → Q σ' H'
def lftG (K : Frag) (L : Lc) (sl : List Nat) (g : D → Ro → Option Ro) : TG := fun v σ H Q => ∃ ρ F A B d, Sta F (un A B) H ∧ Dj A B ∧ EnvL K L F H ρ σ A ∧ Rep K L.cA F H d v B ∧ PostG K L sl σ F (un A B) H Q (g d ρ)
def lftGs (K : Frag) (L : Lc) (sl : List Nat) (g : List D → Ro → Option Ro) : TGs := fun v σ H Q => ∃ ρ F A B d, Sta F (un A B) H ∧ Dj A B ∧ EnvL K L F H ρ σ A ∧ Reps K L.cA F H d v B ∧ PostG K L sl σ F (un A B) H Q (g d ρ)
structure DG (X : Cx) (L : Lc) (tg : Expr) (sl : List Nat) (g : D → Ro → Option Ro) : Prop where
  pg : PG X tg (lftG X.K L sl g)
structure DGs (X : Cx) (L : Lc) (tg : List Expr) (sl : List Nat) (g : List D → Ro → Option Ro) : Prop where
  pg : PGs X tg (lftGs X.K L sl g)
theorem Agr.refl {sl : List Nat} {σ : L2.St} : Agr sl σ σ := ⟨rfl, fun _ _ => rfl⟩
theorem PostG.here {K : Frag} {L : Lc} {sl : List Nat} {σ σ' : L2.St} {F A A1 : FP} {H : Hp} {Q : L2.St → Hp → Prop} {ρ : Ro} (h : PostG K L sl σ F A H Q (some ρ)) (ag : Agr sl σ σ') (st : Sta F A H) (hs : ∀ b, A1 b → A b) (en : EnvL K L F H ρ σ' A1) : Q σ' H :=
  h σ' H F A1 ag ((Step.refl st).sub hs) en
theorem pg_to {X : Cx} {e : Expr} {t t' : TG} (h : PG X e t) (i : ∀ v σ H Q, t' v σ H Q → t v σ H Q) : PG X e t' := ⟨fun pins s σ H v u Q I r q => h.run pins s σ H v u Q I r (i v σ H Q q)⟩
theorem pgs_to {X : Cx} {e : List Expr} {t t' : TGs} (h : PGs X e t) (i : ∀ v σ H Q, t' v σ H Q → t v σ H Q) : PGs X e t' := ⟨fun pins s σ H v u Q I r q => h.run pins s σ H v u Q I r (i v σ H Q q)⟩
def gSet (i : Nat) : D → Ro → Option Ro := fun d ρ => some (ρ.set i (some d))
def gsNil : List D → Ro → Option Ro
  | [], ρ => some ρ
  | _, _ => none
def gsCons (g : D → Ro → Option Ro) (gs : List D → Ro → Option Ro) : List D → Ro → Option Ro
  | d :: ds, ρ => (g d ρ).bind fun ρ1 => gs ds ρ1
  | [], _ => none
def tupOf : D → Option (List D)
  | .tup ds => some ds
  | _ => none
def gTupD (n : Nat) (gs : List D → Ro → Option Ro) : D → Ro → Option Ro := fun d ρ => match d with
  | .tup ds => if ds.length = n then gs ds ρ else none
  | _ => none
theorem EnvR.put' {K : Frag} {cA : Cid → Addr} {F : FP} {H : Hp} {ρ : Ro} {σ : List (Option V)} {A B : FP} {i : Nat} {d : D} {v : V} (h : EnvR K cA F H ρ σ A) (r : Rep K cA F H d v B) (dj : Dj A B) : EnvR K cA F H (ρ.set i (some d)) (σ.set i (some v)) (un A B) := by
  by_cases l : i < ρ.length
  · exact h.put r dj l
  · have l2 : ¬ i < σ.length := by rw [← h.len]; exact l
    rw [List.set_eq_of_length_le (by omega), List.set_eq_of_length_le (by omega)]
    exact h.move (fun _ x => x) (fun _ _ _ e => e) fun _ x => .inl x
section
variable {X : Cx} {L : Lc} {pos : Pos} {e tg : Expr} {m : Ro → R D} {g : D → Ro → Option Ro} {gs : List D → Ro → Option Ro}
def unpin (L : Lc) (i : Nat) : Bool := L.pin.all fun p => p.1 != i
theorem EnvL.put {K : Frag} {F A B : FP} {H : Hp} {ρ : Ro} {σ : L2.St} {i : Nat} {d : D} {v : V} (en : EnvL K L F H ρ σ A) (hp : unpin L i = true) (r : Rep K L.cA F H d v B) (dj : Dj A B) : EnvL K L F H (ρ.set i (some d)) (σ.set i (some v)) (un A B) :=
  ⟨en.env.put' r dj, fun p hm => by
    have n : p.1 ≠ i := by have := List.all_eq_true.mp hp p hm; simpa using this
    rw [List.getElem?_set_ne (Ne.symm n)]
    exact en.pin p hm⟩
theorem dg_name (i : Nat) {x : Str} (hN : X.N.Nodup) (hi : X.N[i]? = some x := by rfl) (hx : Loc X.env.scope x := by first | exact Or.inl rfl | exact Or.inr rfl) (hf : X.fn x = true ∨ X.env.scope.names.lookup x = some .local := by first | exact .inl rfl | exact .inr rfl) (hp : unpin L i = true := by rfl) : DG X L (.Name x pos) [i] (gSet i) :=
  ⟨pg_to (pg_name hN hi hx hf) fun v σ H Q ⟨ρ, F, A, B, d, st, dj, en, r, p⟩ => PostG.here p ⟨by simp, fun j hj => List.getElem?_set_ne (fun e => hj (by simp [e]))⟩ st (fun _ x => x) (en.put hp r dj)⟩
theorem dgs_nil : DGs X L [] [] gsNil := ⟨pgs_to pgs_nil fun vs σ H Q ⟨ρ, F, A, B, ds, st, dj, en, r, p⟩ => by
  cases ds with
  | nil => cases r; exact ⟨rfl, PostG.here p Agr.refl st (fun _ x => .inl x) en⟩
  | cons d ds => exact p.elim⟩
theorem dgs_cons {es : List Expr} {sl sls : List Nat} (h1 : DG X L e sl g) (h2 : DGs X L es sls gs) (hs : (assignEach (e :: es) X.env).map (·.2) = assign e X.env :: (assignEach es X.env).map (·.2) := by rfl) : DGs X L (e :: es) (sl ++ sls) (gsCons g gs) := ⟨pgs_to (pgs_cons h1.pg h2.pg hs) fun vs σ H Q ⟨ρ, F, A, B, ds, st, dj, en, r, p⟩ => by
  cases ds with
  | nil => exact p.elim
  | cons d ds =>
    obtain ⟨v, vs', B1, B2, rfl, s, r1, rs⟩ := r
    refine ⟨v, vs', rfl, ?_⟩
    have st1 : Sta F (un A B1) H := st.sub fun b x => x.imp id (s.l b)
    refine ⟨ρ, F, A, B1, d, st1, fun b x y => dj b x (s.l b y), en, r1, ?_⟩
    cases e1 : g d ρ with
    | none => simp only [gsCons, e1, Option.bind_none] at p; exact p
    | some ρ1 =>
      simp only [gsCons, e1, Option.bind_some] at p
      intro σ1 H1 F1 A1 ag1 s1 en1
      have sf : Step F (un (un A B1) B2) H F (un (un A B1) B2) H := Step.refl (st.sub fun b x => x.elim (fun x => x.imp id (s.l b)) fun x => .inr (s.r b x))
      obtain ⟨s2, d2, kb⟩ := sf.seq (fun b x y => x.elim (fun x => dj b x (s.r b y)) fun x => s.d b x y) s1
      refine ⟨ρ1, F1, A1, B2, ds, s2.sta, d2, en1, rs.move s1.fr kb (fun _ x => x), ?_⟩
      have s3 : Step F (un A B) H F1 (un A1 B2) H1 := ⟨fun b o e n => s2.keep b o e fun x => n (x.elim (fun x => x.imp id (s.l b)) fun x => .inr (s.r b x)), s2.live, s2.fr, fun b x => (s2.fnew b x).imp id fun x => x.imp (fun x => x.elim (fun x => x.imp id (s.l b)) fun x => .inr (s.r b x)) id, fun b x => (s2.anew b x).imp (fun x => x.elim (fun x => x.imp id (s.l b)) fun x => .inr (s.r b x)) id, s2.sta⟩
      cases e2 : gs ds ρ1 with
      | none => rw [e2] at p; exact p
      | some ρ2 =>
        rw [e2] at p
        exact fun σ4 H4 F4 A4 ag s4 en4 => p σ4 H4 F4 A4 ⟨ag.1.trans ag1.1, fun j hj => (ag.2 j fun z => hj (List.mem_append_right _ z)).trans (ag1.2 j fun z => hj (List.mem_append_left _ z))⟩ (s3.trans s4) en4⟩
theorem dg_tup {es : List Expr} {sl : List Nat} {k : Nat} {n : Nat} (hc : X.calm = true) (h : DGs X L es sl gs) (hn : (assignEach es X.env).length = n := by rfl) (hst : (assignEach es X.env).findIdx? (·.1) = none := by rfl) : DG X L (.Tuple es k pos) sl (gTupD n gs) :=
  ⟨pg_to (pg_tup hc h.pg hn hst) fun v σ H Q ⟨ρ, F, A, B, d, st, dj, en, r, p⟩ => by
    cases d <;> first | exact p.elim | skip
    rename_i ds
    obtain ⟨a, vs, rfl, t, rs⟩ := r
    have p : PostG X.K L sl σ F (un A B) H Q (if ds.length = n then gs ds ρ else none) := p
    by_cases hl : ds.length = n
    · rw [if_pos hl] at p
      exact ⟨a, vs, rfl, t.sq, by rw [← rs.len]; exact hl, ρ, F, A, B, ds, st, dj, en, rs, p⟩
    · rw [if_neg hl] at p
      exact p.elim⟩
/-- target = value -/
def mAsg (m : Ro → R D) (g : D → Ro → Option Ro) : Ro → RS := fun ρ => bS (m ρ) fun d ρ1 => match g d ρ1 with
  | some ρ2 => .nx ρ2
  | none => .bad
theorem ds_asg {sl : List Nat} (he : DE X L e m) (hg : DG X L tg sl g) (hs : swapsWithSole [tg] e pos.line X.env = pure false := by rfl) (hw : swappedStores [tg] e X.env = pure none := by rfl)
    (h1 : (assignEach [tg] X.env).map (·.2) = [assign tg X.env] := by rfl) : DS X L (.Assign [tg] e pos) (mAsg m g) := ⟨ps_to (ps_asg he.pe hg.pg hs hw h1) fun D σ H h => by
  refine lftS_bind h fun y H1 F1 A1 B d ρ1 st dj en q p => ?_
  refine ⟨ρ1, F1, A1, B, d, st, dj, en, q, ?_⟩
  cases e1 : g d ρ1 with
  | none => rw [e1] at p; exact p
  | some ρ2 => rw [e1] at p; exact fun σ4 H4 F4 A4 _ s4 en4 => p σ4 H4 F4 A4 s4 en4⟩
/-- name = value -/
theorem ds_set (i : Nat) {x : Str} {pos' : Pos} (hN : X.N.Nodup) (he : DE X L e m) (hi : X.N[i]? = some x := by rfl) (hx : Loc X.env.scope x := by first | exact Or.inl rfl | exact Or.inr rfl) (hs : swapsWith e (some (.Name x pos')) pos.line X.env = pure false := by rfl) (hf : X.fn x = true ∨ X.env.scope.names.lookup x = some .local := by first | exact .inl rfl | exact .inr rfl) (hp : unpin L i = true := by rfl) :
    DS X L (.Assign [.Name x pos'] e pos) (mAsg m (gSet i)) := ⟨ps_to (ps_set hN hi hx he.pe hs hf) fun D σ H h => by
  refine lftS_bind h fun y H1 F1 A1 B d ρ1 st dj en q p => ?_
  exact nxP.here p st (fun _ x => x) (en.put hp q dj)⟩
end
/-! ### loops -/
def loop (g : D → Ro → RS) : List D → Ro → RS
  | [], ρ => .nx ρ
  | d :: ds, ρ => match g d ρ with
    | .nx ρ1 => loop g ds ρ1
    | .ct ρ1 => loop g ds ρ1
    | .bk ρ1 => .nx ρ1
    | r => r
/-- an iterator that yields ds, frozen -/
structure Runs (K : Frag) (cA : Cid → Addr) (F : FP) (H0 : Hp) (J : It) (ds : List D) : Prop where
  go : ∀ i d H F1 A1, ds[i]? = some d → Sta F1 A1 H → (∀ b, F b → F1 b) → (∀ b o, F b → H0 b = some o → H b = some o) → J.go i H ∧ ∀ x H', J.yld i H x H' → (∀ b o, H b = some o → H' b = some o) ∧ ∃ F2, Step F1 A1 H F2 A1 H' ∧ Rep K cA F2 H' d x no
  stop : ∀ i H F1 A1, ds.length ≤ i → Sta F1 A1 H → (∀ b, F b → F1 b) → (∀ b o, F b → H0 b = some o → H b = some o) → J.stop i H
def PostI (K : Frag) (L : Lc) (F A : FP) (H : Hp) (σ : L2.St) (R' : It → Hp → Prop) : R (List D) → Prop
  | .bad => False
  | .ok ds ρ' => ∀ J H' F' A', Step F A H F' A' H' → EnvL K L F' H' ρ' σ A' → Runs K L.cA F' H' J ds → R' J H'
  | .exc x ρ' => excP K L F A H σ x ρ'
def lftI (K : Frag) (L : Lc) (m : Ro → R (List D)) : TI := fun σ H R' => ∃ ρ F A, Sta F A H ∧ EnvL K L F H ρ σ A ∧ PostI K L F A H σ R' (m ρ)
structure DI (X : Cx) (L : Lc) (tg iter : Expr) (m : Ro → R (List D)) : Prop where
  pi : PI X tg iter (lftI X.K L m)
theorem pi_to {X : Cx} {tg iter : Expr} {t t' : TI} (h : PI X tg iter t) (i : ∀ σ H Q, t' σ H Q → t σ H Q) : PI X tg iter t' := ⟨fun pins s σ H Q I q => h.run pins s σ H Q I (i σ H Q q)⟩
def gBody (g : D → Ro → Option Ro) (b : Ro → RS) : D → Ro → RS := fun d ρ => match g d ρ with
  | some ρ1 => b ρ1
  | none => .bad
def mFor (mi : Ro → R (List D)) (g : D → Ro → Option Ro) (b : Ro → RS) : Ro → RS := fun ρ => bS (mi ρ) fun ds ρ1 => loop (gBody g b) ds ρ1
section
variable {X : Cx} {L : Lc} {pos : Pos} {tg iter : Expr} {body : List Stmt} {mi : Ro → R (List D)} {g : D → Ro → Option Ro} {b : Ro → RS}
theorem keep_of {F A F1 A1 : FP} {H H1 : Hp} (s : Step F A H F1 A1 H1) (st : Sta F A H) : ∀ b o, F b → H b = some o → H1 b = some o := fun b o x e => s.keep b o e fun y => st.dj b y x
theorem ds_for {sl : List Nat} (hp : PassesOwn (model X.prog X.w) X.A X.env X.xe) (hc : X.calm = true) (hi : DI X L tg iter mi) (hg : DG X L tg sl g) (hb : DB X L body b) (hs : ∀ x, foldedSetIterable iter X.env x = pure x := by intro _; rfl) :
    DS X L (.For tg iter body [] pos) (mFor mi g b) := ⟨ps_to (ps_for hp hc hi.pi hg.pg hb.ps hs) fun D σ H ⟨ρ, F, A, st, en, p⟩ => by
  refine ⟨ρ, F, A, st, en, ?_⟩
  unfold mFor at p
  cases e : mi ρ with
  | bad => rw [e] at p; exact p
  | exc x ρ1 => rw [e] at p; exact fun c dd H1 F1 A1 s en1 q => p c dd σ H1 F1 A1 s en1 q
  | ok ds ρ1 =>
    rw [e] at p
    intro J H1 F1 A1 s1 en1 run
    have p1 : PostS X.K L F1 A1 H1 D (loop (gBody g b) ds ρ1) := PostS.step s1 p
    refine ⟨fun i m σ H => m = ds.length - i ∧ i ≤ ds.length ∧ ∃ ρ F2 A2, Sta F2 A2 H ∧ EnvL X.K L F2 H ρ σ A2 ∧ (∀ b, F1 b → F2 b) ∧ (∀ b o, F1 b → H1 b = some o → H b = some o) ∧ PostS X.K L F2 A2 H D (loop (gBody g b) (ds.drop i) ρ), ⟨_, rfl, Nat.zero_le _, ρ1, F1, A1, s1.sta, en1, fun _ x => x, fun _ _ _ e => e, p1⟩, ?_⟩
    rintro i m σ2 H2 ⟨rfl, hi, ρ2, F2, A2, st2, en2, f2, k2, p2⟩
    by_cases hlt : i < ds.length
    · have hd : ds[i]? = some ds[i] := List.getElem?_eq_getElem hlt
      obtain ⟨go, yl⟩ := run.go i ds[i] H2 F2 A2 hd st2 f2 k2
      rw [List.drop_eq_getElem_cons hlt] at p2
      refine .inr ⟨go, fun σ' H' => (i + 1 ≤ ds.length ∧ ∃ ρ F2 A2, Sta F2 A2 H' ∧ EnvL X.K L F2 H' ρ σ' A2 ∧ (∀ b, F1 b → F2 b) ∧ (∀ b o, F1 b → H1 b = some o → H' b = some o) ∧ PostS X.K L F2 A2 H' D (loop (gBody g b) (ds.drop (i + 1)) ρ)), fun σ' H' q => ⟨ds.length - (i + 1), by omega, rfl, q⟩, fun x H3 y => ?_⟩
      obtain ⟨ka, F3, s3, r3⟩ := yl x H3 y
      have en3 := en2.move s3.fr (fun b o z e => ka b o e) (fun _ z => z)
      refine ⟨ρ2, F3, A2, no, ds[i], s3.sta.sub (fun b x => x.elim id False.elim), fun _ _ z => z.elim, en3, r3, ?_⟩
      have p3 : PostS X.K L F3 (un A2 no) H3 D (loop (gBody g b) (ds[i] :: ds.drop (i + 1)) ρ2) := PostS.step (s3.sub fun b x => x.elim id False.elim) p2
      cases eg : g ds[i] ρ2 with
      | none => simp only [loop, gBody, eg] at p3; exact p3
      | some ρ3 =>
        simp only [loop, gBody, eg] at p3
        intro σ4 H4 F4 A4 _ s4 en4
        refine ⟨ρ3, F4, A4, s4.sta, en4, ?_⟩
        have f4 : ∀ b, F1 b → F4 b := fun b x => s4.fr b (s3.fr b (f2 b x))
        have k4 : ∀ b o, F1 b → H1 b = some o → H4 b = some o := fun b o x e => s4.keep b o (ka b o (k2 b o x e)) fun z => s3.sta.dj b (z.elim id False.elim) (s3.fr b (f2 b x))
        cases eb : b ρ3 with
        | bad => rw [eb] at p3; exact p3
        | nx ρ5 =>
          rw [eb] at p3
          have p5 := PostS.step s4 p3
          exact fun σ6 H6 F6 A6 s6 en6 => ⟨hlt, ρ5, F6, A6, s6.sta, en6, fun b x => s6.fr b (f4 b x), fun b o x e => s6.keep b o (k4 b o x e) fun z => s4.sta.dj b z (f4 b x), PostS.step s6 p5⟩
        | ct ρ5 =>
          rw [eb] at p3
          have p5 := PostS.step s4 p3
          exact fun σ6 H6 F6 A6 s6 en6 => ⟨hlt, ρ5, F6, A6, s6.sta, en6, fun b x => s6.fr b (f4 b x), fun b o x e => s6.keep b o (k4 b o x e) fun z => s4.sta.dj b z (f4 b x), PostS.step s6 p5⟩
        | bk ρ5 => rw [eb] at p3; exact PostS.step (r := .nx ρ5) s4 p3
        | ret d ρ5 => rw [eb] at p3; exact PostS.step (r := .ret d ρ5) s4 p3
        | exc x ρ5 => rw [eb] at p3; exact PostS.step (r := .exc x ρ5) s4 p3
    · have e0 : i = ds.length := by omega
      subst e0
      refine .inl ⟨run.stop _ H2 F2 A2 (Nat.le_refl _) st2 f2 k2, ?_⟩
      rw [List.drop_length] at p2
      exact nxP.here p2 st2 (fun _ x => x) en2⟩

/-! ### while: fuel n -/
def mWhile (t : Ro → R Bool) (b : Ro → RS) : Nat → Ro → RS
  | 0, _ => .bad
  | n + 1, ρ => bS (t ρ) fun c ρ1 => if c then (match b ρ1 with
    | .nx ρ2 => mWhile t b n ρ2
    | .ct ρ2 => mWhile t b n ρ2
    | .bk ρ2 => .nx ρ2
    | r => r) else .nx ρ1
theorem ds_while (n : Nat) {c : Expr} {t : Ro → R Bool} (hp : PassesOwn (model X.prog X.w) X.A X.env X.xe) (hc : DT X L c t) (hb : DB X L body b) : DS X L (.While c body [] pos) (mWhile t b n) := ⟨ps_to (ps_while hp hc.pt hb.ps) fun D σ H ⟨ρ, F, A, st, en, p⟩ => by
  refine ⟨fun m σ H => ∃ ρ F A, Sta F A H ∧ EnvL X.K L F H ρ σ A ∧ PostS X.K L F A H D (mWhile t b m ρ), ⟨n, ρ, F, A, st, en, p⟩, ?_⟩
  rintro m σ1 H1 ⟨ρ1, F1, A1, st1, en1, p1⟩
  cases m with
  | zero => exact p1.elim
  | succ m =>
    refine lftS_bind (m := t) ⟨ρ1, F1, A1, st1, en1, p1⟩ fun y H2 F2 A2 B2 a ρ2 st2 dj2 en2 q2 p2 => ?_
    cases q2
    cases y with
    | false => exact nxP.here p2 st2 (fun b x => .inl x) en2
    | true =>
      refine ⟨fun σ' H' => ∃ ρ F A, Sta F A H' ∧ EnvL X.K L F H' ρ σ' A ∧ PostS X.K L F A H' D (mWhile t b m ρ), fun σ' H' q => ⟨m, Nat.lt_succ_self m, q⟩, ?_⟩
      refine ⟨ρ2, F2, A2, st2.sub fun b x => .inl x, en2, ?_⟩
      have p3 := PostS.sub st2 (A1 := A2) (fun b x => .inl x) p2
      have p3 : PostS X.K L F2 A2 H2 D (match b ρ2 with
        | .nx ρ2 => mWhile t b m ρ2
        | .ct ρ2 => mWhile t b m ρ2
        | .bk ρ2 => .nx ρ2
        | r => r) := p3
      cases eb : b ρ2 with
      | bad => rw [eb] at p3; exact p3
      | nx ρ5 => rw [eb] at p3; exact fun σ6 H6 F6 A6 s6 en6 => ⟨ρ5, F6, A6, s6.sta, en6, PostS.step s6 p3⟩
      | ct ρ5 => rw [eb] at p3; exact fun σ6 H6 F6 A6 s6 en6 => ⟨ρ5, F6, A6, s6.sta, en6, PostS.step s6 p3⟩
      | bk ρ5 => rw [eb] at p3; exact p3
      | ret d ρ5 => rw [eb] at p3; exact p3
      | exc x ρ5 => rw [eb] at p3; exact p3⟩
end
end T
end

section
set_option Elab.async false
set_option linter.all false
set_option maxRecDepth 100000
set_option maxHeartbeats 1000000
namespace T
open PySem PySem.Spec PyProof.Rows L2
/-! ### calls where no repr is under way -/
structure Roo (k : Nat) (A : Around) : Prop where
  rm : Room k A
  gu : A.guards = some []
structure FnG (P : Program) (w : World) (K : PySem.W.Frag) (mg : Str → Option Value) (base : Heap) (CX : CXT) (k : Nat) (f : Addr) (fd : FuncData) (ps : List Str) (sp : Sp) : Prop where
  len : ∀ vs H Q E, sp vs H Q E → vs.length = ps.length
  run : ∀ (A : Around) (outer : List PySem.Env) (s : Shared) (H : Hp) (args : Args) (us : List Value) (vs : List V) (Q : VK) (E : XK), Roo k A → Env0 P w K mg base A outer s H → BindsTo s fd args (ps.zip us) → Vals vs us → sp vs H Q E →
    codeAny (model P w) A (Code.call (.ref f) args) (CR CX outer P w H s Q E) s
theorem Roo.mono {k k' : Nat} {A : Around} (h : Roo k A) (l : k' ≤ k) : Roo k' A := ⟨h.rm.mono l, h.gu⟩
theorem Roo.make {k : Nat} {A : Around} (h : Roo (k + 1) A) (C : Addr) (us : List Value) (kw : List (Str × Value)) : Roo k (A.under (.builtin "type.__call__" { pos := .ref C :: us, kw := kw })) := ⟨h.rm.make C us kw, by
  show pushGuards (Code.guards (.builtin "type.__call__" { pos := .ref C :: us, kw := kw })) A.guards = some []
  rw [h.gu]
  rfl⟩
section
variable {P : Program} {w : World} {K : PySem.W.Frag} {mg : Str → Option Value} {base : Heap} {CX : CXT}
theorem FnG.of {k : Nat} {f : Addr} {fd : FuncData} {ps : List Str} {sp : Sp} (F : FnOk P w K mg base CX k f fd ps sp) : FnG P w K mg base CX k f fd ps sp := ⟨F.len, fun A outer s H args us vs Q E hr => F.run A outer s H args us vs Q E hr.rm⟩
theorem FnG.imp {k : Nat} {f : Addr} {fd : FuncData} {ps : List Str} {sp sp' : Sp} (F : FnG P w K mg base CX k f fd ps sp) (h : ∀ vs H Q E, sp' vs H Q E → sp vs H Q E) : FnG P w K mg base CX k f fd ps sp' :=
  ⟨fun vs H Q E q => F.len vs H Q E (h vs H Q E q), fun A outer s H args us vs Q E hr e0 hb r q => F.run A outer s H args us vs Q E hr e0 hb r (h vs H Q E q)⟩
theorem FnG.mono {k k' : Nat} {f : Addr} {fd : FuncData} {ps : List Str} {sp : Sp} (F : FnG P w K mg base CX k f fd ps sp) (l : k ≤ k') : FnG P w K mg base CX k' f fd ps sp := ⟨F.len, fun A outer s H args us vs Q E hr => F.run A outer s H args us vs Q E (hr.mono l)⟩
theorem fn_ofG {k : Nat} {f : Addr} {name qual : Str} {params : Arguments} {body : List Stmt} {scope : PySem.Scope} {dV kV doc pm cdv ct oc : Value} {an od : Option Addr} {osl : Array (Option Value)} {N ps : List Str} {sp : Sp}
    (lk : K.lookup f = some { cls := oc, dict := od, data := .func (PySem.W.fnOf name qual params body scope dV kV doc pm an cdv ct), slots := osl }) (hcd : PySem.W.codeIn K cdv qual = true) (S : FnScope N ps scope) (len : ∀ vs H Q E, sp vs H Q E → vs.length = ps.length)
    (hbody : ∀ (A : Around) (outer : List PySem.Env) (s : Shared) (H : Hp) (vs : List V) (Q : VK) (E : XK), Roo k (A.deeper (envOfC qual scope s.heap.objs.size f cdv)) → sp vs H Q E →
      ∃ t, PSs (cxOf CX P w K mg base N qual scope f cdv A outer s H E) body t ∧ t { nx := fun _ H' => Q V.non H', rt := Q } (L2.start N vs) H) : FnG P w K mg base CX (k + 1) f (PySem.W.fnOf name qual params body scope dV kV doc pm an cdv ct) ps sp := by
  refine ⟨len, fun A outer s H args us vs Q E hr e0 hb r hsp => ?_⟩
  have hl := len vs H Q E hsp
  have KX : K.In s.heap := PySem.W.Frag.In.keeps e0.mod.kin fun b o e => (e0.bs b o e).1
  have lim : s.heap.NoLimit := Heap.NoLimit.keeps e0.mod.nolimit fun b o e => (e0.bs b o e).1
  refine codeAny_call_function hr.rm.depth (KX f _ lk) rfl S.co S.gen rfl (PySem.W.codeRec_of KX hcd) (hb (model P w) (Around.in1 A) _ _ (wpAny_newFunctionEnv_cells S.kind (fun ⟨n, v⟩ hy => (S.par n (List.of_mem_zip hy).1).elim (fun q => .inl q) fun q => .inr ⟨q, PySem.W.cellsFrom_some scope.names (s.heap.objs.size + 1) [] (.inl q)⟩) fun env he s1 x => ?_))
  subst he
  refine ⟨Heap.NoLimit.keeps lim x.toInCall.keep, codeAny_func ?_⟩
  obtain ⟨t, ht, hq⟩ := hbody A outer s H vs Q E ⟨hr.rm.deeper _, hr.gu⟩ hsp
  have I := inv_start (CX := CX) (E := E) S hr.rm.hd e0 hl r x
  refine wpAny_mono (ht.run [] s1 (L2.start N vs) H { nx := fun _ H' => Q V.non H', rt := Q } I hq) (fun fl s' hs => ?_) fun e s' hs => hs
  cases fl with
  | next =>
    obtain ⟨σ', H', J, q⟩ := hs
    exact ⟨.non, H', J.os, J.bare, J.base, J.hok, rfl, q⟩
  | brk =>
    obtain ⟨_, _, _, q⟩ := hs
    exact q.elim
  | cont =>
    obtain ⟨_, _, _, q⟩ := hs
    exact q.elim
  | ret u =>
    obtain ⟨v, σ', H', J, rv, q⟩ := hs
    exact ⟨v, H', J.os, J.bare, J.base, J.hok, rv, q⟩
/-- a def, with defaults or without -/
structure FunG (K : PySem.W.Frag) (x qual : Str) (st : Stmt) (f : Addr) (fd : FuncData) : Prop where
  ex : ∃ oc od dV kV doc pm an cdv ct osl, fd = PySem.W.fnOf x qual (defArgs st) (defBody st) (defScope st) dV kV doc pm an cdv ct ∧ K.lookup f = some { cls := oc, dict := od, data := .func fd, slots := osl } ∧ PySem.W.codeIn K cdv qual = true
  kp : PySem.W.keepIn K (.ref f) = true
theorem FunG.of {x qual : Str} {st : Stmt} {f : Addr} {fd : FuncData} (F : Fun K x qual st f fd) : FunG K x qual st f fd := by
  obtain ⟨oc, od, kV, doc, pm, an, cdv, ct, osl, h⟩ := F.ex
  exact ⟨⟨oc, od, _, kV, doc, pm, an, cdv, ct, osl, h⟩, F.kp⟩
theorem okG {x qual : Str} {st : Stmt} {f : Addr} {fd : FuncData} {N ps : List Str} {k : Nat} {sp : Sp} (F : FunG K x qual st f fd) (S : FnScope N ps (defScope st)) (len : ∀ vs H Q E, sp vs H Q E → vs.length = ps.length)
    (hbody : ∀ (cdv : Value) (A : Around) (outer : List PySem.Env) (s : Shared) (H : Hp) (vs : List V) (Q : VK) (E : XK), Roo k (A.deeper (envOfC qual (defScope st) s.heap.objs.size f cdv)) → sp vs H Q E →
      ∃ t, PSs (cxOf (L2.CX P w) P w K mg base N qual (defScope st) f cdv A outer s H E) (defBody st) t ∧ t { nx := fun _ H' => Q V.non H', rt := Q } (L2.start N vs) H) : FnG P w K mg base (L2.CX P w) (k + 1) f fd ps sp := by
  obtain ⟨oc, od, dV, kV, doc, pm, an, cdv, ct, osl, rfl, lk, hcd⟩ := F.ex
  exact fn_ofG lk hcd S len fun A outer s H vs Q E hr hsp => hbody cdv A outer s H vs Q E hr hsp
end
section
variable {X : Cx} {CX : CXT} {k : Nat} {f : Addr} {fd : FuncData} {ps : List Str} {sp : Sp} {dvs : List V} {ds : List Value} {E : L2.St → XK}
theorem run_fnG {pins : List (Addr × Obj)} {σ : L2.St} {H : Hp} {s : Shared} {Q : VK} {us : List Value} {vs : List V} (F : FnG X.prog X.w X.K X.mg X.base CX k f fd ps sp) (hr : Roo k X.A) (hb : L2.Binds X.K fd ps ds) (hd : Vals dvs ds) (hx : PassesAt CX X σ (E σ)) (I : L2.Inv X pins σ H s) (r : Vals vs us) (h : sp (vs ++ dvs) H Q (E σ)) :
    wpAny (model X.prog X.w) X.A (call (.ref f) us) (EP X pins σ Q) X.xe s := by
  have r2 := r.append hd
  have hl : (us ++ ds).length = ps.length := by rw [← r2.length]; exact F.len _ _ _ _ h
  refine wpAny_call (codeAny_mono (F.run X.A X.stack s H { pos := us } (us ++ ds) (vs ++ dvs) Q (E σ) hr I.env0 (hb s us I.kIn hl) r2 h) fun r s' hq => ?_)
  cases r with
  | error e => exact hx pins H s e s' I hq
  | ok fl =>
    cases fl with
    | ret u => exact I.after hq
    | next => exact False.elim hq
    | brk => exact False.elim hq
    | cont => exact False.elim hq
theorem pe_callG {x : Str} {p pos : Pos} {e : Expr} {es : List Expr} {t : TA} (F : FnG X.prog X.w X.K X.mg X.base CX k f fd ps sp) (hr : Roo k X.A) (hg : Gl X x) (hm : X.mg x = some (.ref f)) (hk : PySem.W.keepIn X.K (.ref f) = true) (hb : L2.Binds X.K fd ps ds) (hd : Vals dvs ds) (hx : ∀ σ, PassesAt CX X σ (E σ)) (ha : PA X (e :: es) t)
    (hdb : (x == ("__debug__" : Str)) = false) (he : starEach (e :: es) X.env = (false, eval e X.env) :: starEach es X.env) (hpl : (backTo pos (starEach es X.env)).any (·.1) = false) : PE X (.Call (.Name x p) (e :: es) [] pos) (tCallSD sp dvs E t) := ⟨fun pins s σ H Q I h => by
  refine wpAny_Call_Name_kw (ld_glob I hg hm ?_ hdb)
  exact PySem.W.callWith_K I.ok.mod.kin hk (thn (ha.run pos pins s σ H _ I h) fun us s1 ⟨vs, H1, I1, r, q⟩ => ⟨I1.kIn, run_fnG F hr hb hd (hx σ) I1 r q⟩) he hpl⟩
end
end T
end

section
set_option Elab.async false
set_option linter.all false
set_option maxRecDepth 100000
set_option maxHeartbeats 4000000
namespace T
open PySem PySem.Spec PyProof.Rows L2
/-! ### defs -/
inductive RF where
  | bad
  | ok (d : D) (os : List D)
  | exc (x : Exn) (os : List D)
def pick (io : List Nat) (vs : List V) : List V := io.map fun i => vs.getD i .non
section
variable (K : Frag) (cA : Cid → Addr)
def PostF (F A : FP) (H : Hp) (ws : List V) (Q : VK) (E : XK) : RF → Prop
  | .bad => False
  | .ok d os => ∀ v H' F' A' B, Step F A H F' (un A' B) H' → Dj A' B → Reps K cA F' H' os ws A' → Rep K cA F' H' d v B → Q v H'
  | .exc x os => ∀ c dd H' F' A', Step F A H F' A' H' → Reps K cA F' H' os ws A' → ExcR K cA F' H' x c dd → E c dd H'
def spT (n : Nat) (io : List Nat) (f : List D → RF) : Sp := fun vs H Q E => vs.length = n ∧ ∃ ds F A, Sta F A H ∧ Reps K cA F H ds vs A ∧ PostF K cA F A H (pick io vs) Q E (f ds)
end
def outsOf : List Nat → Ro → Option (List D)
  | [], _ => some []
  | i :: is, ρ => match ρ[i]? with
    | some (some d) => (outsOf is (ρ.set i none)).map (d :: ·)
    | _ => none
def toRF (io : List Nat) : RS → RF
  | .nx ρ => match outsOf io ρ with
    | some os => .ok .non os
    | none => .bad
  | .ret d ρ => match outsOf io ρ with
    | some os => .ok d os
    | none => .bad
  | .exc x ρ => match outsOf io ρ with
    | some os => .exc x os
    | none => .bad
  | _ => .bad
def start0 (N : List Str) (ds : List D) : Ro := ds.map some ++ List.replicate (N.length - ds.length) none
section
variable {K : Frag} {cA : Cid → Addr} {F : FP} {H : Hp}
theorem EnvR.nones {A : FP} : ∀ n : Nat, EnvR K cA F H (List.replicate n none) (List.replicate n none) A
  | 0 => rfl
  | n + 1 => ⟨none, _, rfl, EnvR.nones n⟩
theorem EnvR.start {r : List (Option D)} {s : List (Option V)} : ∀ {ds : List D} {vs : List V} {A : FP}, (∀ A, EnvR K cA F H r s A) → Reps K cA F H ds vs A → EnvR K cA F H (ds.map some ++ r) (vs.map some ++ s) A
  | [], _, A, h, e => by cases e; exact h A
  | d :: ds, _, A, h, e => by
    obtain ⟨v, vs', A1, A2, rfl, s, q, rs⟩ := e
    exact ⟨v, _, A1, A2, rfl, s, q, EnvR.start h rs⟩
theorem EnvR.outs {σ : List (Option V)} {w : Nat → V} : ∀ {io : List Nat} {ρ : Ro} {A : FP} {os : List D}, EnvR K cA F H ρ σ A → (∀ i ∈ io, σ[i]? = some (some (w i))) → outsOf io ρ = some os → Reps K cA F H os (io.map w) A
  | [], _, _, _, _, _, e => by cases e; rfl
  | i :: io, ρ, A, os, h, hp, e => by
    unfold outsOf at e
    split at e
    · rename_i d e1
      obtain ⟨os', e2, rfl⟩ := Option.map_eq_some_iff.mp e
      obtain ⟨v, A1, A2, e3, s, r, rs⟩ := h.take e1
      have e4 := hp i (List.mem_cons_self ..)
      rw [e3] at e4
      cases e4
      exact ⟨_, _, A1, A2, rfl, s, r, EnvR.outs rs (fun j hj => hp j (List.mem_cons_of_mem _ hj)) e2⟩
    · cases e
end
abbrev cxT (P : Program) (w : World) (K : Frag) (mg : Str → Option Value) (base : Heap) (N : List Str) (qual : Str) (st : Stmt) (f : Addr) (cdv : Value) (A : Around) (outer : List PySem.Env) (s : Shared) (H : Hp) (E : XK) : Cx :=
  cxOf (L2.CX P w) P w K mg base N qual (defScope st) f cdv A outer s H E
abbrev lcT (cA : Cid → Addr) (E : XK) (io : List Nat) (vs : List V) : Lc := ⟨cA, fun c d _ H => E c d H, io.map fun i => (i, vs.getD i .non)⟩
/-- a def does f -/
abbrev FnT (P : Program) (w : World) (K : Frag) (mg : Str → Option Value) (base : Heap) (cA : Cid → Addr) (k : Nat) (f : Addr) (fd : FuncData) (ps : List Str) (io : List Nat) (F : List D → RF) : Prop :=
  FnG P w K mg base (L2.CX P w) k f fd ps (spT K cA ps.length io F)
section
variable {P : Program} {w : World} {K : Frag} {mg : Str → Option Value} {base : Heap} {cA : Cid → Addr}
theorem getD_start {N : List Str} {vs : List V} {i : Nat} (h : i < vs.length) : (L2.start N vs)[i]? = some (some (vs.getD i .non)) := by
  unfold L2.start
  rw [List.getElem?_append_left (by simpa using h), List.getElem?_map, List.getElem?_eq_getElem h]
  simp [List.getD, List.getElem?_eq_getElem h]
theorem fn_okG {x qual : Str} {st : Stmt} {f : Addr} {fd : FuncData} {N ps : List Str} {k : Nat} {m : Ro → RS} (io : List Nat) (S : FnScope N ps (defScope st)) (hio : io.all (fun i => decide (i < ps.length)) = true)
    (ok : ∀ {sp : Sp}, (∀ vs H Q E, sp vs H Q E → vs.length = ps.length) → (∀ (cdv : Value) (A : Around) (outer : List PySem.Env) (s : Shared) (H : Hp) (vs : List V) (Q : VK) (E : XK), Roo k (A.deeper (envOfC qual (defScope st) s.heap.objs.size f cdv)) → sp vs H Q E →
      ∃ t, PSs (cxT P w K mg base N qual st f cdv A outer s H E) (defBody st) t ∧ t { nx := fun _ H' => Q .non H', rt := Q } (L2.start N vs) H) → FnG P w K mg base (L2.CX P w) (k + 1) f fd ps sp)
    (hb : ∀ (cdv : Value) (A : Around) (outer : List PySem.Env) (s : Shared) (H : Hp) (vs : List V) (E : XK), Roo k (A.deeper (envOfC qual (defScope st) s.heap.objs.size f cdv)) → DB (cxT P w K mg base N qual st f cdv A outer s H E) (lcT cA E io vs) (defBody st) m) :
    FnT P w K mg base cA (k + 1) f fd ps io fun ds => toRF io (m (start0 N ds)) := by
  refine ok (fun vs H Q E q => q.1) fun cdv A outer s H vs Q E hr ⟨hl, ds, F0, A0, sta, rs, po⟩ => ⟨_, (hb cdv A outer s H vs E hr).ps, ?_⟩
  have hi : ∀ i ∈ io, i < vs.length := fun i hi => by rw [hl]; exact of_decide_eq_true (List.all_eq_true.mp hio i hi)
  have env : EnvR K cA F0 H (start0 N ds) (L2.start N vs) A0 := by
    unfold start0 L2.start
    rw [rs.len]
    exact EnvR.start (fun _ => EnvR.nones _) rs
  have outs : ∀ {F' A' : FP} {H' : Hp} {ρ' : Ro} {σ' : L2.St} {os : List D}, EnvL K (lcT cA E io vs) F' H' ρ' σ' A' → outsOf io ρ' = some os → Reps K cA F' H' os (pick io vs) A' := fun {F' A' H' ρ' σ' os} en e =>
    EnvR.outs en.env (fun i h => en.pin (i, vs.getD i .non) (List.mem_map.mpr ⟨i, h, rfl⟩)) e
  refine ⟨start0 N ds, F0, A0, sta, ⟨env, fun p hp => ?_⟩, ?_⟩
  · obtain ⟨i, h, rfl⟩ := List.mem_map.mp hp
    exact getD_start (hi i h)
  · change PostF K cA F0 A0 H (pick io vs) Q E (toRF io (m (start0 N ds))) at po
    cases em : m (start0 N ds) with
    | bad => rw [em] at po; exact po
    | bk ρ => rw [em] at po; exact po.elim
    | ct ρ => rw [em] at po; exact po.elim
    | nx ρ =>
      rw [em] at po
      unfold toRF at po
      cases eo : outsOf io ρ with
      | none => simp only [eo] at po; exact po.elim
      | some os =>
        simp only [eo] at po
        exact fun σ' H' F' A' s' en => po .non H' F' A' no (s'.sub fun b x => x.elim id False.elim) (fun _ _ z => z.elim) (outs en eo) rfl
    | ret d ρ =>
      rw [em] at po
      unfold toRF at po
      cases eo : outsOf io ρ with
      | none => simp only [eo] at po; exact po.elim
      | some os =>
        simp only [eo] at po
        exact fun v σ' H' F' A' B s' dj en q => po v H' F' A' B s' dj (outs en eo) q
    | exc x ρ =>
      rw [em] at po
      unfold toRF at po
      cases eo : outsOf io ρ with
      | none => simp only [eo] at po; exact po.elim
      | some os =>
        simp only [eo] at po
        exact fun c dd σ' H' F' A' s' en q => po c dd H' F' A' s' (outs en eo) q
theorem fn_ok {x qual : Str} {st : Stmt} {f : Addr} {fd : FuncData} {N ps : List Str} {k : Nat} {m : Ro → RS} (io : List Nat) (G : FunG K x qual st f fd) (S : FnScope N ps (defScope st)) (hio : io.all (fun i => decide (i < ps.length)) = true)
    (hb : ∀ (cdv : Value) (A : Around) (outer : List PySem.Env) (s : Shared) (H : Hp) (vs : List V) (E : XK), Roo k (A.deeper (envOfC qual (defScope st) s.heap.objs.size f cdv)) → DB (cxT P w K mg base N qual st f cdv A outer s H E) (lcT cA E io vs) (defBody st) m) :
    FnT P w K mg base cA (k + 1) f fd ps io fun ds => toRF io (m (start0 N ds)) :=
  fn_okG (x := x) io S hio (fun len h => okG G S len h) hb
/-- by a better function -/
theorem FnT.to {k : Nat} {f : Addr} {fd : FuncData} {ps : List Str} {io : List Nat} {g h : List D → RF} (F : FnT P w K mg base cA k f fd ps io g) (e : ∀ ds, h ds = .bad ∨ g ds = h ds) : FnT P w K mg base cA k f fd ps io h :=
  F.imp fun vs H Q E ⟨hl, ds, F0, A0, st, rs, po⟩ => ⟨hl, ds, F0, A0, st, rs, by
    rcases e ds with e | e
    · rw [e] at po; exact po.elim
    · rw [e]; exact po⟩
end
/-! ### calls -/
theorem Step.pre {F A A1 F' A' : FP} {H H' : Hp} (s : Step F A H F' A' H') (h : ∀ b, A b → A1 b) : Step F A1 H F' A' H' :=
  ⟨fun b o e n => s.keep b o e fun x => n (h b x), s.live, s.fr, fun b x => (s.fnew b x).imp id (Or.imp (h b) id), fun b x => (s.anew b x).imp (h b) id, s.sta⟩
def putBack : List (Option Nat) → List D → Ro → Ro
  | some j :: js, d :: ds, ρ => putBack js ds (ρ.set j (some d))
  | none :: js, _ :: ds, ρ => putBack js ds ρ
  | _, _, ρ => ρ
section
variable {K : Frag} {cA : Cid → Addr} {F : FP} {H : Hp}
theorem EnvR.putBack {σ : List (Option V)} : ∀ {js : List (Option Nat)} {os : List D} {ws : List V} {ρ : Ro} {A B : FP}, EnvR K cA F H ρ σ A → Reps K cA F H os ws B → Dj A B → (∀ (k j : Nat) (w : V), js[k]? = some (some j) → ws[k]? = some w → σ[j]? = some (some w)) → EnvR K cA F H (putBack js os ρ) σ (un A B)
  | [], _, _, _, _, _, h, _, _, _ => h.move (fun _ x => x) (fun _ _ _ e => e) fun _ x => .inl x
  | none :: js, [], _, _, _, _, h, _, _, _ => h.move (fun _ x => x) (fun _ _ _ e => e) fun _ x => .inl x
  | some _ :: js, [], _, _, _, _, h, _, _, _ => h.move (fun _ x => x) (fun _ _ _ e => e) fun _ x => .inl x
  | none :: js, d :: ds, _, _, A, B, h, r, dj, k => by
    obtain ⟨v, vs', B1, B2, rfl, s, q, rs⟩ := r
    exact (EnvR.putBack h rs (fun b x y => dj b x (s.r b y)) fun i j w e1 e2 => k (i + 1) j w (by simpa using e1) (by simpa using e2)).move (fun _ x => x) (fun _ _ _ e => e) fun b x => x.imp id (s.r b)
  | some j :: js, d :: ds, _, _, A, B, h, r, dj, k => by
    obtain ⟨v, vs', B1, B2, rfl, s, q, rs⟩ := r
    have h1 := h.back (i := j) q (fun b x y => dj b x (s.l b y)) (k 0 j v rfl rfl)
    exact (EnvR.putBack h1 rs (fun b x y => x.elim (fun x => dj b x (s.r b y)) fun x => s.d b x y) fun i j w e1 e2 => k (i + 1) j w (by simpa using e1) (by simpa using e2)).move (fun _ x => x) (fun _ _ _ e => e) fun b x => x.elim (fun x => x.imp id (s.l b)) fun x => .inr (s.r b x)
theorem Reps.append : ∀ {ds es : List D} {vs ws : List V} {A B : FP}, Reps K cA F H ds vs A → Reps K cA F H es ws B → Dj A B → Reps K cA F H (ds ++ es) (vs ++ ws) (un A B)
  | [], _, _, _, _, _, r, q, _ => by cases r; exact q.move (fun _ x => x) (fun _ _ _ e => e) fun _ x => .inr x
  | d :: ds, _, _, _, _, _, r, q, dj => by
    obtain ⟨v, vs', A1, A2, rfl, s, h, rs⟩ := r
    exact ⟨v, _, A1, _, rfl, ⟨fun b x => .inl (s.l b x), fun b x => x.imp (s.r b) id, fun b x y => y.elim (s.d b x) fun y => dj b (s.l b x) y⟩, h, Reps.append rs q fun b x y => dj b (s.r b x) y⟩
theorem Reps.get : ∀ {ds : List D} {vs : List V} {A : FP} {i : Nat} {d : D}, Reps K cA F H ds vs A → ds[i]? = some d → ∃ v A1, vs[i]? = some v ∧ (∀ b, A1 b → A b) ∧ Rep K cA F H d v A1
  | [], _, _, _, _, _, e => by simp at e
  | d' :: ds, _, _, 0, d, r, e => by
    obtain ⟨v, vs', A1, A2, rfl, s, h, rs⟩ := r
    cases e
    exact ⟨v, A1, rfl, s.l, h⟩
  | d' :: ds, _, _, i + 1, d, r, e => by
    obtain ⟨v, vs', A1, A2, rfl, s, h, rs⟩ := r
    obtain ⟨w, A3, e1, z, q⟩ := Reps.get (i := i) rs (by simpa using e)
    exact ⟨w, A3, by simpa using e1, fun b x => s.r b (z b x), q⟩
end
/-- arguments, of which some are names that are lent -/
def rL (σ : L2.St) (ls : List (Option Nat)) : Rel (List D) (List V) := fun K cA F H ds vs B => Reps K cA F H ds vs B ∧ ∀ (i j : Nat) (v : V), ls[i]? = some (some j) → vs[i]? = some v → σ[j]? = some (some v)
/-- .. where the lent ones are not yet taken -/
def RepH (K : Frag) (cA : Cid → Addr) (F : FP) (H : Hp) (σ : L2.St) : List (Option Nat) → List D → List V → FP → Prop
  | [], ds, vs, _ => ds = [] ∧ vs = []
  | none :: ls, ds, vs, A => ∃ d ds' v vs' A1 A2, ds = d :: ds' ∧ vs = v :: vs' ∧ Spl A A1 A2 ∧ Rep K cA F H d v A1 ∧ RepH K cA F H σ ls ds' vs' A2
  | some j :: ls, ds, vs, A => ∃ d ds' v vs', ds = d :: ds' ∧ vs = v :: vs' ∧ σ[j]? = some (some v) ∧ RepH K cA F H σ ls ds' vs' A
def fill : List (Option Nat) → List D → Ro → Option (List D × Ro)
  | [], [], ρ => some ([], ρ)
  | none :: ls, d :: ds, ρ => (fill ls ds ρ).map fun x => (d :: x.1, x.2)
  | some j :: ls, _ :: ds, ρ => match ρ[j]? with
    | some (some d) => (fill ls ds (ρ.set j none)).map fun x => (d :: x.1, x.2)
    | _ => none
  | _, _, _ => none
def mFill (ls : List (Option Nat)) (ms : Ro → R (List D)) : Ro → R (List D) := fun ρ => (ms ρ).bind fun ds ρ1 => match fill ls ds ρ1 with
  | some x => .ok x.1 x.2
  | none => .bad
section
variable {K : Frag} {cA : Cid → Addr} {F : FP} {H : Hp} {σ : L2.St}
theorem RepH.move {F' : FP} {H' : Hp} (hF : ∀ b, F b → F' b) : ∀ {ls : List (Option Nat)} {ds : List D} {vs : List V} {A A' : FP}, (∀ b o, F b ∨ A b → H b = some o → H' b = some o) → (∀ b, A b → A' b) → RepH K cA F H σ ls ds vs A → RepH K cA F' H' σ ls ds vs A'
  | [], _, _, _, _, _, _, h => h
  | none :: ls, _, _, _, _, k, hA, h => by
    obtain ⟨d, ds', v, vs', A1, A2, e1, e2, s, r, rs⟩ := h
    exact ⟨d, ds', v, vs', A1, A2, e1, e2, s.weak hA, Rep.move hF (fun b o z => k b o (z.imp id (s.l b))) (fun _ z => z) r, RepH.move hF (fun b o z => k b o (z.imp id (s.r b))) (fun _ z => z) rs⟩
  | some j :: ls, _, _, _, _, k, hA, h => by
    obtain ⟨d, ds', v, vs', e1, e2, e3, rs⟩ := h
    exact ⟨d, ds', v, vs', e1, e2, e3, RepH.move hF k hA rs⟩
theorem fill_ok : ∀ {ls : List (Option Nat)} {ds : List D} {vs : List V} {A B : FP} {ρ ρ' : Ro} {xs : List D}, RepH K cA F H σ ls ds vs B → EnvR K cA F H ρ σ A → Dj A B → fill ls ds ρ = some (xs, ρ') →
    ∃ A' B', Reps K cA F H xs vs B' ∧ EnvR K cA F H ρ' σ A' ∧ Dj A' B' ∧ (∀ b, A' b → A b) ∧ (∀ b, B' b → A b ∨ B b) ∧ ∀ (i j : Nat) (v : V), ls[i]? = some (some j) → vs[i]? = some v → σ[j]? = some (some v)
  | [], _, _, A, B, ρ, _, _, r, en, dj, e => by
    obtain ⟨rfl, rfl⟩ := r
    cases e
    exact ⟨A, no, rfl, en, fun _ _ z => z, fun _ x => x, fun _ z => z.elim, fun _ _ _ e => by simp at e⟩
  | none :: ls, _, _, A, B, ρ, _, _, r, en, dj, e => by
    obtain ⟨d, ds', v, vs', B1, B2, rfl, rfl, s, q, rs⟩ := r
    obtain ⟨⟨xs', ρ2⟩, e1, e2⟩ := Option.map_eq_some_iff.mp e
    cases e2
    obtain ⟨A', B', h1, h2, h3, h4, h5, h6⟩ := fill_ok rs en (fun b x y => dj b x (s.r b y)) e1
    refine ⟨A', un B1 B', ⟨v, vs', B1, B', rfl, ⟨fun _ x => .inl x, fun _ x => .inr x, fun b x y => (h5 b y).elim (fun z => dj b z (s.l b x)) (s.d b x)⟩, q, h1⟩, h2, fun b x y => y.elim (fun y => dj b (h4 b x) (s.l b y)) (h3 b x), h4, fun b x => x.elim (fun x => .inr (s.l b x)) fun x => (h5 b x).imp id (s.r b), fun i j w e3 e4 => ?_⟩
    cases i with
    | zero => simp at e3
    | succ i => exact h6 i j w (by simpa using e3) (by simpa using e4)
  | some j :: ls, _, _, A, B, ρ, _, _, r, en, dj, e => by
    obtain ⟨d, ds', v, vs', rfl, rfl, e0, rs⟩ := r
    unfold fill at e
    split at e
    · rename_i d' ed
      obtain ⟨⟨xs', ρ2⟩, e1, e2⟩ := Option.map_eq_some_iff.mp e
      cases e2
      obtain ⟨w, A1, A2, e3, s, q, en2⟩ := en.take ed
      rw [e0] at e3
      cases e3
      obtain ⟨A', B', h1, h2, h3, h4, h5, h6⟩ := fill_ok rs en2 (fun b x y => dj b (s.r b x) y) e1
      refine ⟨A', un A1 B', ⟨v, vs', A1, B', rfl, ⟨fun _ x => .inl x, fun _ x => .inr x, fun b x y => (h5 b y).elim (s.d b x) (dj b (s.l b x))⟩, q, h1⟩, h2, fun b x y => y.elim (fun y => s.d b y (h4 b x)) (h3 b x), fun b x => s.r b (h4 b x), fun b x => x.elim (fun x => .inl (s.l b x)) fun x => (h5 b x).imp (s.r b) id, fun i k w e3 e4 => ?_⟩
      cases i with
      | zero =>
        simp at e3 e4
        subst e3 e4
        exact e0
      | succ i => exact h6 i k w (by simpa using e3) (by simpa using e4)
    · cases e
end
theorem R.assoc {α β γ : Type} {r : R α} {f : α → Ro → R β} {g : β → Ro → R γ} : (r.bind f).bind g = r.bind fun a ρ => (f a ρ).bind g := by cases r <;> rfl
def rH (σ : L2.St) (ls : List (Option Nat)) : Rel (List D) (List V) := fun K cA F H ds vs B => RepH K cA F H σ ls ds vs B
structure DL (X : Cx) (L : Lc) (es : List Expr) (ls : List (Option Nat)) (m : Ro → R (List D)) : Prop where
  pa : PA X es fun σ H Q => lft X.K L (rH σ ls) m σ H Q
section
variable {X : Cx} {L : Lc} {pos : Pos} {e : Expr} {es : List Expr} {m : Ro → R D} {ms : Ro → R (List D)} {ls : List (Option Nat)}
theorem dl_nil : DL X L [] [] mNil := ⟨pa_to pa_nil fun σ H Q ⟨ρ, F, A, st, en, p⟩ => p.val (A1 := A) st (fun b x => x) en ⟨rfl, rfl⟩⟩
theorem dl_cons (ha : DE X L e m) (hr : DL X L es ls ms) (hs : starEach (e :: es) X.env = (false, eval e X.env) :: starEach es X.env := by rfl) : DL X L (e :: es) (none :: ls) (mCons m ms) :=
  ⟨pa_to (pa_cons ha.pe hr.pa hs) fun σ H Q h => lft_bind h fun v H1 F1 A1 B1 d ρ1 st dj en q p => by
    refine lft_rest st dj en p fun vs H2 F2 A2 B2 ds ρ2 st2 dj2 dj2' en2 q2 fr kb p2 => ?_
    refine p2.ret (A1 := A2) (B := un B1 B2) st2 (fun b x => x.elim (fun x => .inl (.inl x)) fun x => x.elim .inr fun x => .inl (.inr x)) (fun b x y => y.elim (dj2' b (.inl x)) (dj2 b x)) en2 ⟨d, ds, v, vs, B1, B2, rfl, rfl, ⟨fun b x => .inl x, fun b x => .inr x, fun b x y => dj2' b (.inr y) x⟩, q.move fr kb fun _ x => x, q2⟩⟩
/-- a name that is lent -/
def mHole (j : Nat) : Ro → R D := fun ρ => match ρ[j]? with
  | some (some _) => .ok .non ρ
  | _ => .bad
/-- a name that is lent: what the call leaves of it comes back -/
theorem dl_lend (j : Nat) {x : Str} (hr : DL X L es ls ms) (hN : X.N[j]? = some x := by rfl) (hv : Vis X.env.scope x := by first | exact Or.inl rfl | exact Or.inr (Or.inl rfl) | exact Or.inr (Or.inr rfl)) (hd : (x == ("__debug__" : Str)) = false := by decide)
    (hcd : (x == ("__classdict__" : Str)) = false := by decide) (hs : starEach (.Name x pos :: es) X.env = (false, eval (.Name x pos) X.env) :: starEach es X.env := by rfl) : DL X L (.Name x pos :: es) (some j :: ls) (mCons (mHole j) ms) :=
  ⟨pa_to (pa_cons (pe_var hN hv hd hcd) hr.pa hs) fun σ H Q ⟨ρ, F, A, st, en, p⟩ => by
    have p : Post X.K L (rH σ (some j :: ls)) F A H σ Q ((mHole j ρ).bind fun d ρ1 => (ms ρ1).bind fun ds ρ2 => .ok (d :: ds) ρ2) := p
    unfold mHole at p
    split at p
    · rename_i d e
      obtain ⟨v, A1, A2, e1, s, r, rs⟩ := en.env.take e
      refine ⟨v, e1, ?_⟩
      have h : lft X.K L (rH σ (some j :: ls)) (fun ρ => (ms ρ).bind fun ds ρ2 => .ok (D.non :: ds) ρ2) σ H Q := ⟨ρ, F, A, st, en, p⟩
      refine lft_bind h fun vs H1 F1 A1 B1 ds ρ1 st1 dj1 en1 q p1 => ?_
      exact p1.ret (A1 := A1) (B := B1) st1 (fun _ x => x) dj1 en1 ⟨.non, ds, v, vs, rfl, rfl, e1, q⟩
    · exact p.elim⟩
theorem lft_fill {K : Frag} {γ δ : Type} {rel' : Rel γ δ} {f : List D → Ro → R γ} {σ : L2.St} {H : Hp} {Q : δ → Hp → Prop} {Q' : List V → Hp → Prop} (h : lft K L rel' (fun ρ => (mFill ls ms ρ).bind f) σ H Q)
    (k : ∀ y H1 F1 A1 B a ρ1, Sta F1 (un A1 B) H1 → Dj A1 B → EnvL K L F1 H1 ρ1 σ A1 → rL σ ls K L.cA F1 H1 a y B → Post K L rel' F1 (un A1 B) H1 σ Q (f a ρ1) → Q' y H1) : lft K L (rH σ ls) ms σ H Q' := by
  have h : lft K L rel' (fun ρ => (ms ρ).bind fun ds ρ1 => (match fill ls ds ρ1 with
    | some x => R.ok x.1 x.2
    | none => R.bad).bind f) σ H Q := by
    have e : ∀ ρ, (mFill ls ms ρ).bind f = (ms ρ).bind fun ds ρ1 => (match fill ls ds ρ1 with
      | some x => R.ok x.1 x.2
      | none => R.bad).bind f := fun ρ => R.assoc
    rw [← funext e]
    exact h
  refine lft_bind h fun y H1 F1 A1 B a ρ1 st dj en q p => ?_
  cases ef : fill ls a ρ1 with
  | none => rw [ef] at p; exact p.elim
  | some x =>
    rw [ef] at p
    obtain ⟨A', B', h1, h2, h3, h4, h5, h6⟩ := fill_ok q en.env dj ef
    have hs : ∀ b, un A' B' b → un A1 B b := fun b x => x.elim (fun x => .inl (h4 b x)) (h5 b)
    exact k y H1 F1 A' B' x.1 x.2 (st.sub hs) h3 ⟨h2, en.pin⟩ ⟨h1, h6⟩ (Post.step ((Step.refl st).sub hs) p)
theorem lft_fillR {K : Frag} {γ δ : Type} {rel' : Rel γ δ} {f : List D → Ro → R γ} {σ : L2.St} {Q : δ → Hp → Prop} {Q' : List V → Hp → Prop} {H0 : Hp} {F0 A0 B0 : FP} {ρ0 : Ro}
    (st : Sta F0 (un A0 B0) H0) (d0 : Dj A0 B0) (en : EnvL K L F0 H0 ρ0 σ A0) (p : Post K L rel' F0 (un A0 B0) H0 σ Q ((mFill ls ms ρ0).bind f))
    (k : ∀ y H1 F1 A1 B a ρ1, Sta F1 (un (un A1 B) B0) H1 → Dj A1 B → Dj (un A1 B) B0 → EnvL K L F1 H1 ρ1 σ A1 → rL σ ls K L.cA F1 H1 a y B → (∀ b, F0 b → F1 b) → (∀ b o, F0 b ∨ B0 b → H0 b = some o → H1 b = some o) → Post K L rel' F1 (un (un A1 B) B0) H1 σ Q (f a ρ1) → Q' y H1) : lft K L (rH σ ls) ms σ H0 Q' := by
  have p : Post K L rel' F0 (un A0 B0) H0 σ Q ((ms ρ0).bind fun ds ρ1 => (match fill ls ds ρ1 with
    | some x => R.ok x.1 x.2
    | none => R.bad).bind f) := by
    unfold mFill at p
    rw [R.assoc] at p
    exact p
  refine lft_rest st d0 en p fun y H1 F1 A1 B a ρ1 st1 dj1 dj1' en1 q fr kb p1 => ?_
  cases ef : fill ls a ρ1 with
  | none => rw [ef] at p1; exact p1.elim
  | some x =>
    rw [ef] at p1
    obtain ⟨A', B', h1, h2, h3, h4, h5, h6⟩ := fill_ok q en1.env dj1 ef
    have hs : ∀ b, un (un A' B') B0 b → un (un A1 B) B0 b := fun b x => x.imp (fun x => x.elim (fun x => .inl (h4 b x)) (h5 b)) id
    exact k y H1 F1 A' B' x.1 x.2 (st1.sub hs) h3 (fun b x => dj1' b (x.elim (fun x => .inl (h4 b x)) (h5 b))) ⟨h2, en1.pin⟩ ⟨h1, h6⟩ fr kb (Post.step ((Step.refl st1).sub hs) p1)
/-- defaults -/
def Dfl (K : Frag) (cA : Cid → Addr) (dds : List D) (dvs : List V) : Prop := ∀ F H, Reps K cA F H dds dvs no
theorem Dfl.nil {K : Frag} {cA : Cid → Addr} : Dfl K cA [] [] := fun _ _ => rfl
def afterC (ls : List (Option Nat)) (ρ : Ro) : RF → R D
  | .bad => .bad
  | .ok d os => .ok d (putBack ls os ρ)
  | .exc x os => .exc x (putBack ls os ρ)
def pickL (io : List Nat) (ls : List (Option Nat)) : List (Option Nat) := io.map fun i => ls.getD i none
def mCallF (ls : List (Option Nat)) (io : List Nat) (dds : List D) (g : List D → RF) (ms : Ro → R (List D)) : Ro → R D := fun ρ => (mFill ls ms ρ).bind fun ds ρ1 => if ds.length = ls.length then afterC (pickL io ls) ρ1 (g (ds ++ dds)) else .bad
/-- what the callee does, for the caller; js: for each of its io parameters the name that was lent -/
theorem PostF.of {K : Frag} {F A B : FP} {H : Hp} {σ : L2.St} {Q : VK} {js : List (Option Nat)} {ws : List V} {r : RF} {ρ : Ro} (st : Sta F (un A B) H) (dj : Dj A B) (en : EnvL K L F H ρ σ A)
    (hl : ∀ (i j : Nat) (v : V), js[i]? = some (some j) → ws[i]? = some v → σ[j]? = some (some v)) (p : Post K L rE F (un A B) H σ Q (afterC js ρ r)) : PostF K L.cA F B H ws Q (WE L.W σ) r := by
  have s0 : Step F (un B A) H F (un B A) H := Step.refl (st.sub fun b x => x.symm)
  cases r with
  | bad => exact p
  | ok d os =>
    intro v H' F' A' B' s dj' rs q
    obtain ⟨s1, d1, kb⟩ := s0.seq (fun b x y => dj b y x) s
    have s2 : Step F (un A B) H F' (un (un A A') B') H' := (s1.pre fun b x => x.symm).sub fun b x => x.elim (fun x => x.elim .inr fun x => .inl (.inl x)) fun x => .inl (.inr x)
    refine p v H' F' (un A A') B' s2 (fun b x y => x.elim (fun x => d1 b (.inr y) x) fun x => dj' b x y) ⟨?_, en.pin⟩ q
    exact EnvR.putBack (en.env.move s.fr kb fun _ x => x) rs (fun b x y => d1 b (.inl y) x) hl
  | exc x os =>
    intro c dd H' F' A' s rs q
    obtain ⟨s1, d1, kb⟩ := s0.seq (fun b x y => dj b y x) s
    have s2 : Step F (un A B) H F' (un A A') H' := (s1.pre fun b x => x.symm).sub fun b x => x.symm
    exact p c dd H' F' (un A A') s2 ⟨EnvR.putBack (en.env.move s.fr kb fun _ x => x) rs (fun b x y => d1 b y x) hl, en.pin⟩ q
theorem pickL_ok {io : List Nat} {ls : List (Option Nat)} {vs : List V} {σ : L2.St} (h : ∀ (i j : Nat) (v : V), ls[i]? = some (some j) → vs[i]? = some v → σ[j]? = some (some v)) (hio : ∀ i ∈ io, i < vs.length) :
    ∀ (i j : Nat) (v : V), (pickL io ls)[i]? = some (some j) → (pick io vs)[i]? = some v → σ[j]? = some (some v) := by
  intro i j v e1 e2
  unfold pickL at e1
  unfold pick at e2
  rw [List.getElem?_map] at e1 e2
  cases e : io[i]? with
  | none => rw [e] at e1; cases e1
  | some a =>
    rw [e] at e1 e2
    simp only [Option.map_some, Option.some.injEq] at e1 e2
    have ha : a < vs.length := hio a (List.mem_of_getElem? e)
    have e3 : vs[a]? = some v := by
      rw [← e2]
      simp [List.getD, List.getElem?_eq_getElem ha]
    refine h a j v ?_ e3
    cases e4 : ls[a]? with
    | none => simp [List.getD, e4] at e1
    | some o => simp [List.getD, e4] at e1; rw [e1]
/-- a promise of trees, asked -/
theorem spT_of {K : Frag} {F A B : FP} {H : Hp} {σ : L2.St} {Q : VK} {n : Nat} {io : List Nat} {ls : List (Option Nat)} {vs : List V} {ds : List D} {f : List D → RF} {ρ : Ro} (st : Sta F (un A B) H) (dj : Dj A B) (en : EnvL K L F H ρ σ A)
    (q : Reps K L.cA F H ds vs B) (hl : ∀ (i j : Nat) (v : V), ls[i]? = some (some j) → vs[i]? = some v → σ[j]? = some (some v)) (hn : vs.length = n) (hio : io.all (fun i => decide (i < n)) = true) (p : Post K L rE F (un A B) H σ Q (afterC (pickL io ls) ρ (f ds))) :
    spT K L.cA n io f vs H Q (WE L.W σ) :=
  ⟨hn, ds, F, B, st.sub fun b x => .inr x, q, PostF.of st dj en (pickL_ok hl fun i hi => by rw [hn]; exact of_decide_eq_true (List.all_eq_true.mp hio i hi)) p⟩
end
section
variable {X : Cx} {L : Lc} {pos p : Pos} {x : Str} {e : Expr} {es : List Expr} {ms : Ro → R (List D)} {ls : List (Option Nat)} {k : Nat} {f : Addr} {fd : FuncData} {ps : List Str} {io : List Nat} {g : List D → RF} {dds : List D} {dvs : List V} {us : List Value}
theorem getD_app {α : Type} {l r : List α} {i : Nat} {x v : α} : l[i]? = some v → (l ++ r)[i]? = some v := fun h => by
  have : i < l.length := (List.getElem?_eq_some_iff.mp h).1
  rw [List.getElem?_append_left this]; exact h
/-- f(e, ..) -/
theorem de_call (F : FnT X.prog X.w X.K X.mg X.base L.cA k f fd ps io g) (hr : Roo k X.A) (tk : Takes X L.W) (hm : X.mg x = some (.ref f)) (hk : PySem.W.keepIn X.K (.ref f) = true) (hb : Binds X.K fd ps us) (hd : Vals dvs us) (hdd : Dfl X.K L.cA dds dvs)
    (ha : DL X L (e :: es) ls ms) (hn : ls.length + dds.length = ps.length := by rfl) (hio : io.all (fun i => decide (i < ps.length)) = true := by rfl) (hlio : io.all (fun i => decide (i < ls.length)) = true := by rfl) (hg : Gl X x := by rfl) (hdb : (x == ("__debug__" : Str)) = false := by decide) (he : starEach (e :: es) X.env = (false, eval e X.env) :: starEach es X.env := by rfl) (hpl : (backTo pos (starEach es X.env)).any (·.1) = false := by rfl) :
    DE X L (.Call (.Name x p) (e :: es) [] pos) (mCallF ls io dds g ms) :=
  ⟨pe_to (pe_callG (E := fun σ => WE L.W σ) F hr hg hm hk hb hd (fun σ => passAt tk σ) ha.pa hdb he hpl) fun σ H Q h => by
    refine lft_fill h fun vs H1 F1 A1 B1 ds ρ1 st dj en q p => ?_
    by_cases hl : ds.length = ls.length
    · have p : Post X.K L rE F1 (un A1 B1) H1 σ Q (afterC (pickL io ls) ρ1 (g (ds ++ dds))) := by simpa [hl] using p
      have r := q.1.append (hdd F1 H1) (fun _ _ z => z.elim)
      have r := r.move (A' := B1) (fun _ x => x) (fun _ _ _ e => e) fun b x => x.elim id False.elim
      refine spT_of st dj en r (fun i j v e1 e2 => ?_) ?_ hio p
      · have hi : i < vs.length := by rw [← q.1.len, hl]; exact (List.getElem?_eq_some_iff.mp e1).1
        rw [List.getElem?_append_left hi] at e2
        exact q.2 i j v e1 e2
      · rw [List.length_append, ← q.1.len, hl, ← (hdd F1 H1).len]
        exact hn
    · have p : Post X.K L rE F1 (un A1 B1) H1 σ Q R.bad := by simpa [hl] using p
      exact p.elim⟩
end
end T
end

section
set_option Elab.async false
set_option linter.all false
set_option maxRecDepth 100000
set_option maxHeartbeats 4000000
namespace T
open PySem PySem.Spec PyProof.Rows L2
/-! ### objects of own classes -/
def look (f : Str) : List Str → List D → Option D
  | g :: fs, d :: ds => if f == g then some d else look f fs ds
  | _, _ => none
def putN (f : Str) : List Str → List Str
  | [] => [f]
  | g :: fs => if g = f then f :: fs else g :: putN f fs
def putX {α : Type} (f : Str) (x : α) : List Str → List α → List α
  | g :: fs, y :: ys => if g = f then x :: ys else y :: putX f x fs ys
  | _, _ => [x]
theorem putF_zip {f : Str} {v : V} : ∀ {fs : List Str} {vs : List V}, fs.length = vs.length → putF f v (fs.zip vs) = (putN f fs).zip (putX f v fs vs)
  | [], [], _ => rfl
  | g :: fs, y :: ys, h => by
    show putF f v ((g, y) :: fs.zip ys) = _
    unfold putF putN putX
    by_cases e : g = f
    · rw [if_pos e, if_pos e, if_pos e, e]; rfl
    · rw [if_neg e, if_neg e, if_neg e, putF_zip (by simpa using h)]; rfl
theorem putNX_len {α : Type} {f : Str} {x : α} : ∀ {fs : List Str} {vs : List α}, fs.length = vs.length → (putN f fs).length = (putX f x fs vs).length
  | [], [], _ => rfl
  | g :: fs, y :: ys, h => by
    unfold putN putX
    by_cases e : g = f
    · rw [if_pos e, if_pos e]; simpa using h
    · rw [if_neg e, if_neg e]; simpa using putNX_len (f := f) (x := x) (fs := fs) (vs := ys) (by simpa using h)
section
variable {K : Frag} {cA : Cid → Addr} {F : FP} {H : Hp}
theorem Reps.look : ∀ {ds : List D} {vs : List V} {fs : List Str} {A : FP} {f : Str} {d : D}, Reps K cA F H ds vs A → T.look f fs ds = some d → ∃ v A1, (fs.zip vs).lookup f = some v ∧ (∀ b, A1 b → A b) ∧ Rep K cA F H d v A1
  | [], _, [], _, _, _, _, e => by cases e
  | [], _, _ :: _, _, _, _, _, e => by cases e
  | _ :: _, _, [], _, _, _, _, e => by cases e
  | d' :: ds, _, g :: fs, A, f, d, r, e => by
    obtain ⟨v, vs', A1, A2, rfl, s, h, rs⟩ := r
    unfold T.look at e
    by_cases q : (f == g) = true
    · rw [if_pos q] at e
      cases e
      exact ⟨v, A1, by simp [List.zip, List.lookup, q], s.l, h⟩
    · rw [if_neg q] at e
      obtain ⟨w, A3, e1, z, h'⟩ := Reps.look (fs := fs) rs e
      refine ⟨w, A3, ?_, fun b x => s.r b (z b x), h'⟩
      have q' : (f == g) = false := by simpa using q
      simpa [List.zip, List.lookup, q'] using e1
theorem Reps.putX : ∀ {ds : List D} {vs : List V} {fs : List Str} {A B : FP} {f : Str} {d : D} {v : V}, fs.length = vs.length → Reps K cA F H ds vs A → Rep K cA F H d v B → Dj A B → Reps K cA F H (putX f d fs ds) (T.putX f v fs vs) (un A B)
  | [], _, fs, A, B, f, d, v, l, r, q, dj => by
    cases r
    cases fs with
    | nil => exact ⟨v, [], B, no, rfl, ⟨fun _ x => .inr x, fun _ x => x.elim, fun _ _ x => x.elim⟩, q, rfl⟩
    | cons g fs => cases l
  | d' :: ds, _, [], A, B, f, d, v, l, r, q, dj => by
    obtain ⟨w, vs', A1, A2, rfl, s, h, rs⟩ := r
    cases l
  | d' :: ds, _, g :: fs, A, B, f, d, v, l, r, q, dj => by
    obtain ⟨w, vs', A1, A2, rfl, s, h, rs⟩ := r
    unfold T.putX
    by_cases e : g = f
    · rw [if_pos e, if_pos e]
      exact ⟨v, vs', B, A2, rfl, ⟨fun _ x => .inr x, fun b x => .inl (s.r b x), fun b x y => dj b (s.r b y) x⟩, q, rs⟩
    · rw [if_neg e, if_neg e]
      exact ⟨w, _, A1, un A2 B, rfl, ⟨fun b x => .inl (s.l b x), fun b x => x.imp (s.r b) id, fun b x y => y.elim (s.d b x) (dj b (s.l b x))⟩, h, Reps.putX (by simpa using l) rs q fun b x y => dj b (s.r b x) y⟩
/-- an object of an own class, owned or not -/
theorem Rep.ins {o : Bool} {c : Cid} {fs : List Str} {ds : List D} {v : V} {A : FP} (h : Rep K cA F H (.ins o c fs ds) v A) : ∃ a dx vs A', v = .ref a ∧ H a = some (.ins (cA c) dx (fs.zip vs)) ∧ fs.length = vs.length ∧ (∀ b, A' b → A b) ∧ Reps K cA F H ds vs A' := by
  cases o with
  | false =>
    obtain ⟨a, vs, dx, e, t, l, f, r⟩ := h
    exact ⟨a, dx, vs, no, e, t, l, fun _ z => z.elim, r⟩
  | true =>
    obtain ⟨a, vs, dx, A', e, t, l, m, s, r⟩ := h
    exact ⟨a, dx, vs, A', e, t, l, fun b z => (s b z).1, r⟩
end
def oFld (cs : List Cid) (f : Str) : D → Ro → R D
  | .ins _ c fs ds, ρ => if cs.contains c then (match look f fs ds with
    | some d => .ok d ρ
    | none => .bad) else .bad
  | _, _ => .bad
/-- the classes cs have plain attributes, none of theirs is named f -/
def FldOk (K : Frag) (cA : Cid → Addr) (cs : List Cid) (f : Str) : Prop := ∀ c, cs.contains c = true → Cls K (cA c) ∧ NoAttr K (cA c) f
section
variable {X : Cx} {L : Lc} {pos pos' : Pos} {e o : Expr} {m : Ro → R D} {f : Str} {cs : List Cid}
theorem de_fld (hf : FldOk X.K L.cA cs f) (he : DE X L e m) (hb : attributeBase e f X.env (eval e X.env) = eval e X.env := by rfl) : DE X L (.Attribute e f pos) (m1 (oFld cs f) m) := ⟨pe_to (pe_fld he.pe hb) fun σ H Q h => by
  refine lft_bind h fun v H1 F1 A1 B1 d ρ1 st dj en q p => ?_
  obtain ⟨ow, c, fs, ds, rfl⟩ : ∃ ow c fs ds, d = .ins ow c fs ds := by
    cases d <;> first | exact p.elim | exact ⟨_, _, _, _, rfl⟩
  obtain ⟨a, dx, vs, A', rfl, t, l, s, r⟩ := q.ins
  unfold oFld at p
  by_cases hc : cs.contains c = true
  · obtain ⟨h1, h2⟩ := hf c hc
    cases el : look f fs ds with
    | some d' =>
      simp only [hc, if_true, el] at p
      obtain ⟨v', A2, e1, z, q'⟩ := r.look el
      exact ⟨a, _, dx, _, v', rfl, t, h1, h2, e1, p.ret (A1 := A1) (B := A2) st (fun b x => x.imp id fun x => s b (z b x)) (fun b x y => dj b x (s b (z b y))) en q'⟩
    | none =>
      simp only [hc, if_true, el] at p
      exact p.elim
  · simp only [hc, if_false] at p
    exact p.elim⟩
/-- o.f = e, o a name that owns its object -/
def mSetF (cs : List Cid) (i : Nat) (f : Str) (m : Ro → R D) : Ro → RS := fun ρ => bS (m ρ) fun d ρ1 => match ρ1[i]? with
  | some (some (.ins true c fs ds)) => if cs.contains c && decide (fs.length < 999) then .nx (ρ1.set i (some (.ins true c (putN f fs) (putX f d fs ds)))) else .bad
  | _ => .bad
/-- a mutable object that is owned changes -/
theorem upd_step {F A : FP} {H : Hp} {a : Addr} {u w : HO} (st : Sta F A H) (h : H a = some u) (ha : A a) (nt : ∀ vs, w ≠ .tup vs) : Step F A H F A (upd H a w) := by
  have nF : ∀ b, F b → b ≠ a := fun b x z => st.dj b (by rw [z]; exact ha) x
  have dm : ∀ b, H b ≠ none → upd H a w b ≠ none := fun b e => by
    by_cases q : b = a
    · rw [q, upd_same]; exact fun z => nomatch z
    · rw [upd_ne q]; exact e
  refine ⟨fun b o e n => ?_, dm, fun _ x => x, fun _ x => .inl x, fun _ x => .inl x, ⟨st.dj, fun b x => dm b (st.dom b x), fun b vs x => ?_⟩⟩
  · rw [upd_ne (fun z => n (by rw [z]; exact ha))]; exact e
  · by_cases q : b = a
    · rw [q, upd_same]; exact fun z => nt vs (Option.some.inj z)
    · rw [upd_ne q]; exact st.nt b vs x
theorem upd_keep {F A : FP} {H : Hp} {a : Addr} {w : HO} (n : ∀ b, F b ∨ A b → b ≠ a) : ∀ b o, F b ∨ A b → H b = some o → upd H a w b = some o := fun b o x e => by rw [upd_ne (n b x)]; exact e
theorem ds_fld (i : Nat) {x : Str} {p : Pos} (hf : FldOk X.K L.cA cs f) (he : DE X L e m) (hN : X.N[i]? = some x := by rfl) (hv : Vis X.env.scope x := by first | exact Or.inl rfl | exact Or.inr (Or.inl rfl) | exact Or.inr (Or.inr rfl)) (hd : (x == ("__debug__" : Str)) = false := by decide)
    (hcd : (x == ("__classdict__" : Str)) = false := by decide) (hs : swapsWith e (some (.Attribute (.Name x p) f pos')) pos.line X.env = pure false := by rfl) : DS X L (.Assign [.Attribute (.Name x p) f pos'] e pos) (mSetF cs i f m) :=
  ⟨ps_to (ps_fld (pe_var hN hv hd hcd) he.pe hs) fun D σ H h => by
    refine lftS_bind h fun v H1 F1 A1 B1 d ρ1 st dj en q p => ?_
    split at p
    · rename_i c fs ds e1
      split at p
      · rename_i hc
        have hc := Bool.and_eq_true_iff.mp hc
        obtain ⟨w, A2, A3, e2, s, r, rs⟩ := en.env.take e1
        obtain ⟨a, vs, dx, A', rfl, t, l, ma, sa, rr⟩ := r
        obtain ⟨h1, h2⟩ := hf c hc.1
        refine ⟨_, e2, a, _, dx, _, rfl, t, h1, h2, ?_, ?_⟩
        · have := of_decide_eq_true hc.2
          rw [List.length_zip, ← l]
          omega
        · have nF : ∀ b, F1 b → b ≠ a := fun b x z => st.dj b (.inl (s.l b (by rw [z]; exact ma))) x
          have nB : ∀ b, B1 b → b ≠ a := fun b x z => dj b (by rw [z]; exact s.l _ ma) x
          have n3 : ∀ b, A3 b → b ≠ a := fun b x z => s.d b (by rw [z]; exact ma) x
          rw [putF_zip l]
          have step := upd_step (w := .ins (L.cA c) dx ((putN f fs).zip (putX f v fs vs))) st t (.inl (s.l a ma)) (fun _ z => nomatch z)
          have r2 : Reps X.K L.cA F1 (upd H1 a (.ins (L.cA c) dx ((putN f fs).zip (putX f v fs vs)))) (putX f d fs ds) (putX f v fs vs) (un A' B1) :=
            (Reps.putX l rr q fun b x y => dj b (s.l b (sa b x).1) y).move (fun _ x => x) (upd_keep fun b x => x.elim (nF b) fun x => x.elim (fun x => (sa b x).2) (nB b)) fun _ x => x
          have r3 : Rep X.K L.cA F1 (upd H1 a (.ins (L.cA c) dx ((putN f fs).zip (putX f v fs vs)))) (.ins true c (putN f fs) (putX f d fs ds)) (.ref a) (un A2 B1) :=
            ⟨a, _, dx, un A' B1, rfl, upd_same, putNX_len l, .inl ma, fun b x => ⟨x.imp (fun x => (sa b x).1) id, x.elim (fun x => (sa b x).2) (nB b)⟩, r2⟩
          have rs' := rs.move (F' := F1) (H' := upd H1 a (.ins (L.cA c) dx ((putN f fs).zip (putX f v fs vs)))) (fun _ x => x) (upd_keep fun b x => x.elim (nF b) (n3 b)) (fun _ x => x)
          have en' := rs'.back (i := i) r3 (fun b x y => y.elim (fun y => s.d b y x) fun y => dj b (s.r b x) y) e2
          rw [List.set_set] at en'
          exact p σ _ F1 _ (step.sub fun b x => x.elim (fun x => .inl (s.r b x)) fun x => x.elim (fun x => .inl (s.l b x)) .inr) ⟨en', en.pin⟩
      · exact p.elim
    · exact p.elim⟩
end
/-! ### methods, objects made -/
section
variable {X : Cx} {L : Lc} {pos apos p : Pos} {m x : Str} {o e : Expr} {es : List Expr} {mo : Ro → R D} {ms : Ro → R (List D)} {ls : List (Option Nat)} {k : Nat} {f C : Addr} {c : Cid} {fd : FuncData} {ps : List Str} {io : List Nat} {g : List D → RF} {dds : List D} {dvs : List V} {us : List Value} {sp : Sp} {E : L2.St → XK} {ta : TE} {t : TA}
def tMethSD (C : Addr) (m : Str) (sp : Sp) (dvs : List V) (E : L2.St → XK) (ta : TE) (t : TA) : TE := fun σ H Q => ta σ H fun x H1 => ∃ a dx fs, x = .ref a ∧ H1 a = some (.ins C dx fs) ∧ fs.lookup m = none ∧ t σ H1 fun vs H2 => sp (x :: (vs ++ dvs)) H2 Q (E σ)
theorem pe_methSD {pl : Sem Bool} (he : PE X o ta) (hc : Cls X.K C) (hm : Meth X.K C m f) (F : FnG X.prog X.w X.K X.mg X.base (L2.CX X.prog X.w) k f fd ps sp) (hr : Roo k X.A) (hb : Binds X.K fd ps us) (hd : Vals dvs us) (hx : ∀ σ, PassesAt (L2.CX X.prog X.w) X σ (E σ)) (ha : PA X (e :: es) t)
    (hst : starEach (e :: es) X.env = (false, eval e X.env) :: starEach es X.env) (hpl : (backTo pos (starEach es X.env)).any (·.1) = false)
    (ht : eval (.Call (.Attribute o m apos) (e :: es) [] pos) X.env = (do
      let ov ← eval o X.env
      standAt apos.atName
      let (f, first) ← holding [ov] (getMethod ov m pl)
      callWith pos f first (backTo pos (starEach (e :: es) X.env)) (backToKw pos (keywordEach [] X.env)))) :
    PE X (.Call (.Attribute o m apos) (e :: es) [] pos) (tMethSD C m sp dvs E ta t) := ⟨fun pins s σ H Q I h => by
  refine PySem.W.methodCall_KW (pl := pl) (thn (he.run pins s σ H _ I h) fun u s1 ⟨x, H1, I1, rx, a, dx, fs, ex, ea, l, q⟩ => ?_) ht
  subst ex
  cases (show u = Value.ref a from rx)
  refine getmeth_ok I1 ea hc hm l ?_
  refine PySem.W.callWith_K (first := [.ref a]) (h₀ := X.base) I.ok.mod.kin hm.kp (thn (ha.run pos pins s1 σ H1 _ I1 q) fun ws s2 ⟨vs, H2, I2, r, q2⟩ => ⟨I2.kIn, ?_⟩) hst hpl
  exact run_fnG (us := .ref a :: ws) (vs := .ref a :: vs) F hr hb hd (hx σ) I2 (.cons rfl r) q2⟩
theorem pe_methSD0 {pl : Sem Bool} (he : PE X o ta) (hc : Cls X.K C) (hm : Meth X.K C m f) (F : FnG X.prog X.w X.K X.mg X.base (L2.CX X.prog X.w) k f fd ps sp) (hr : Roo k X.A) (hb : Binds X.K fd ps us) (hd : Vals dvs us) (hx : ∀ σ, PassesAt (L2.CX X.prog X.w) X σ (E σ))
    (ht : eval (.Call (.Attribute o m apos) [] [] pos) X.env = (do
      let ov ← eval o X.env
      standAt apos.atName
      let (f, first) ← holding [ov] (getMethod ov m pl)
      callWith pos f first (backTo pos (starEach [] X.env)) (backToKw pos (keywordEach [] X.env)))) :
    PE X (.Call (.Attribute o m apos) [] [] pos) (tMethSD C m sp dvs E ta tNil) := ⟨fun pins s σ H Q I h => by
  refine PySem.W.methodCall_KW (pl := pl) (thn (he.run pins s σ H _ I h) fun u s1 ⟨x, H1, I1, rx, a, dx, fs, ex, ea, l, q⟩ => ?_) ht
  subst ex
  cases (show u = Value.ref a from rx)
  refine getmeth_ok I1 ea hc hm l ?_
  exact PySem.W.callWith_K0 (first := [.ref a]) I1.kIn hm.kp (run_fnG (us := [.ref a]) (vs := [.ref a]) F hr hb hd (hx σ) I1 (.cons rfl .nil) q)⟩
/-- the receiver: of the class c, without an own attribute m -/
def isRecv (c : Cid) (m : Str) : D → Bool
  | .ins _ c' fs _ => c' == c && !fs.contains m
  | _ => false
theorem lookup_zip_none {m : Str} : ∀ {fs : List Str} {vs : List V}, fs.contains m = false → (fs.zip vs).lookup m = none
  | [], _, _ => by simp [List.zip]
  | g :: fs, [], _ => by simp [List.zip]
  | g :: fs, y :: ys, h => by
    have h' : (m == g) = false ∧ fs.contains m = false := by
      have q := h
      simp only [List.contains_cons, Bool.or_eq_false_iff] at q
      exact q
    simp only [List.zip_cons_cons, List.lookup_cons, h'.1]
    exact lookup_zip_none h'.2
/-- o.m(e, ..): o is evaluated -/
def mMeth (c : Cid) (m : Str) (ls : List (Option Nat)) (io : List Nat) (dds : List D) (g : List D → RF) (mo : Ro → R D) (ms : Ro → R (List D)) : Ro → R D := fun ρ => (mo ρ).bind fun d ρ1 => if isRecv c m d then ((mFill ls ms ρ1).bind fun ds ρ2 => if ds.length = ls.length then afterC (pickL io (none :: ls)) ρ2 (g (d :: (ds ++ dds))) else .bad) else .bad
/-- .. or a name that is lent -/
def mMethL (j : Nat) (c : Cid) (m : Str) (ls : List (Option Nat)) (io : List Nat) (dds : List D) (g : List D → RF) (ms : Ro → R (List D)) : Ro → R D := fun ρ => match ρ[j]? with
  | some (some d) => if isRecv c m d then ((mFill (some j :: ls) (fun ρ => (ms ρ).bind fun ds ρ1 => .ok (.non :: ds) ρ1) ρ).bind fun ds ρ2 => if ds.length = ls.length + 1 then afterC (pickL io (some j :: ls)) ρ2 (g (ds ++ dds)) else .bad) else .bad
  | _ => .bad
theorem lft_meth {K : Frag} {mo : Ro → R D} (hdd : Dfl K L.cA dds dvs) (hn : 1 + ls.length + dds.length = ps.length) (hio : io.all (fun i => decide (i < ps.length)) = true) : ∀ σ H Q,
    lft K L rE (mMeth c m ls io dds g mo ms) σ H Q → tMethSD (L.cA c) m (spT K L.cA ps.length io g) dvs (fun σ => WE L.W σ) (lft K L rE mo) (fun σ H Q => lft K L (rH σ ls) ms σ H Q) σ H Q := by
  intro σ H Q h
  refine lft_bind h fun v H1 F1 A1 B1 d ρ1 st dj en q p => ?_
  by_cases hrc : isRecv c m d = true
  · have p1 : Post K L rE F1 (un A1 B1) H1 σ Q ((mFill ls ms ρ1).bind fun ds ρ2 => if ds.length = ls.length then afterC (pickL io (none :: ls)) ρ2 (g (d :: (ds ++ dds))) else .bad) := by simpa [hrc] using p
    obtain ⟨ow, c', fs, ds0, rfl⟩ : ∃ ow c fs ds, d = .ins ow c fs ds := by
      cases d <;> first | cases hrc | exact ⟨_, _, _, _, rfl⟩
    have hrc' := Bool.and_eq_true_iff.mp hrc
    have hcc : c' = c := by simpa using hrc'.1
    subst hcc
    obtain ⟨a, dx, vs0, A', rfl, t0, l0, s0, r0⟩ := q.ins
    refine ⟨a, dx, _, rfl, t0, lookup_zip_none (by simpa using hrc'.2), lft_fillR st dj en p1 fun vs H2 F2 A2 B2 ds ρ2 st2 dj2 dj2' en2 q2 fr kb p2 => ?_⟩
    by_cases hl : ds.length = ls.length
    · have p2 : Post K L rE F2 (un (un A2 B2) B1) H2 σ Q (afterC (pickL io (none :: ls)) ρ2 (g (.ins ow c' fs ds0 :: (ds ++ dds)))) := by simpa [hl] using p2
      have r := q2.1.append (hdd F2 H2) (fun _ _ z => z.elim)
      have r := r.move (A' := B2) (fun _ x => x) (fun _ _ _ e => e) fun b x => x.elim id False.elim
      have q1 := q.move fr kb (fun _ x => x)
      have st3 : Sta F2 (un A2 (un B1 B2)) H2 := st2.sub fun b x => x.elim (fun x => .inl (.inl x)) fun x => x.elim .inr fun x => .inl (.inr x)
      have rr : Reps K L.cA F2 H2 (.ins ow c' fs ds0 :: (ds ++ dds)) (.ref a :: (vs ++ dvs)) (un B1 B2) := ⟨_, _, B1, B2, rfl, ⟨fun b x => .inl x, fun b x => .inr x, fun b x y => dj2' b (.inr y) x⟩, q1, r⟩
      refine spT_of (ls := none :: ls) st3 (fun b x y => y.elim (dj2' b (.inl x)) (dj2 b x)) en2 rr (fun i j v e1 e2 => ?_) ?_ hio (Post.step ((Step.refl st2).sub fun b x => x.elim (fun x => .inl (.inl x)) fun x => x.elim .inr fun x => .inl (.inr x)) p2)
      · cases i with
        | zero => simp at e1
        | succ i =>
          have e1 : ls[i]? = some (some j) := by simpa using e1
          have e2 : (vs ++ dvs)[i]? = some v := by simpa using e2
          have hi : i < vs.length := by rw [← q2.1.len, hl]; exact (List.getElem?_eq_some_iff.mp e1).1
          rw [List.getElem?_append_left hi] at e2
          exact q2.2 i j v e1 e2
      · rw [List.length_cons, List.length_append, ← q2.1.len, hl, ← (hdd F2 H2).len]
        omega
    · have p2 : Post K L rE F2 (un (un A2 B2) B1) H2 σ Q R.bad := by simpa [hl] using p2
      exact p2.elim
  · have p : Post K L rE F1 (un A1 B1) H1 σ Q R.bad := by
      have p' := p
      simp only [hrc, if_false] at p'
      exact p'
    exact p.elim
theorem lft_methL {K : Frag} {j : Nat} (hdd : Dfl K L.cA dds dvs) (hn : 1 + ls.length + dds.length = ps.length) (hio : io.all (fun i => decide (i < ps.length)) = true) : ∀ σ H Q,
    lft K L rE (mMethL j c m ls io dds g ms) σ H Q → tMethSD (L.cA c) m (spT K L.cA ps.length io g) dvs (fun σ => WE L.W σ) (tVar j) (fun σ H Q => lft K L (rH σ ls) ms σ H Q) σ H Q := by
  rintro σ H Q ⟨ρ, F, A, st, en, p⟩
  unfold mMethL at p
  split at p
  · rename_i d e
    by_cases hrc : isRecv c m d = true
    · obtain ⟨v, A1, A2, e1, s, r, rs⟩ := en.env.take e
      refine ⟨v, e1, ?_⟩
      have p1 : Post K L rE F A H σ Q ((mFill (some j :: ls) (fun ρ => (ms ρ).bind fun ds ρ1 => .ok (.non :: ds) ρ1) ρ).bind fun ds ρ2 => if ds.length = ls.length + 1 then afterC (pickL io (some j :: ls)) ρ2 (g (ds ++ dds)) else .bad) := by simpa [hrc] using p
      obtain ⟨ow, c', fs, ds0, rfl⟩ : ∃ ow c fs ds, d = .ins ow c fs ds := by
        cases d <;> first | cases hrc | exact ⟨_, _, _, _, rfl⟩
      have hrc' := Bool.and_eq_true_iff.mp hrc
      have hcc : c' = c := by simpa using hrc'.1
      subst hcc
      obtain ⟨a, dx, vs0, A', rfl, t0, l0, s0, r0⟩ := r.ins
      refine ⟨a, dx, _, rfl, t0, lookup_zip_none (by simpa using hrc'.2), ?_⟩
      have h2 := lft_fill (ls := some j :: ls) (ms := fun ρ => (ms ρ).bind fun ds ρ1 => .ok (.non :: ds) ρ1) (Q' := fun ws H2 => ∀ vs, ws = .ref a :: vs → spT K L.cA ps.length io g (.ref a :: (vs ++ dvs)) H2 Q (WE L.W σ)) ⟨ρ, F, A, st, en, p1⟩ fun ws H2 F2 A2 B2 ds ρ2 st2 dj2 en2 q2 p2 => ?_
      · obtain ⟨ρ', F', A', st', en', p'⟩ := h2
        refine ⟨ρ', F', A', st', en', ?_⟩
        have p' : Post K L (rH σ (some j :: ls)) F' A' H σ (fun ws H2 => ∀ vs, ws = .ref a :: vs → spT K L.cA ps.length io g (.ref a :: (vs ++ dvs)) H2 Q (WE L.W σ)) ((ms ρ').bind fun ds ρ1 => .ok (.non :: ds) ρ1) := p'
        cases em : ms ρ' with
        | bad => rw [em] at p'; exact p'
        | exc x ρ1 => rw [em] at p'; exact p'
        | ok ds ρ1 =>
          rw [em] at p'
          exact fun vs H' F2 A2 B s dj en2 q => p' (.ref a :: vs) H' F2 A2 B s dj en2 ⟨.non, ds, .ref a, vs, rfl, rfl, e1, q⟩ vs rfl
      · intro vs ew
        subst ew
        by_cases hl : ds.length = ls.length + 1
        · have p2 : Post K L rE F2 (un A2 B2) H2 σ Q (afterC (pickL io (some j :: ls)) ρ2 (g (ds ++ dds))) := by simpa [hl] using p2
          have rr := q2.1.append (hdd F2 H2) (fun _ _ z => z.elim)
          have rr := rr.move (A' := B2) (fun _ x => x) (fun _ _ _ e => e) fun b x => x.elim id False.elim
          refine spT_of (ls := some j :: ls) st2 dj2 en2 rr (fun i j' v e1 e2 => ?_) ?_ hio p2
          · have hi : i < (V.ref a :: vs).length := by rw [← q2.1.len, hl]; exact (List.getElem?_eq_some_iff.mp e1).1
            have e2 : ((V.ref a :: vs) ++ dvs)[i]? = some v := e2
            rw [List.getElem?_append_left hi] at e2
            exact q2.2 i j' v e1 e2
          · have e3 := q2.1.len
            rw [hl, List.length_cons] at e3
            rw [List.length_cons, List.length_append, ← (hdd F2 H2).len]
            omega
        · have p2 : Post K L rE F2 (un A2 B2) H2 σ Q R.bad := by simpa [hl] using p2
          exact p2.elim
    · have p : Post K L rE F A H σ Q R.bad := by
        have p' := p
        simp only [hrc, if_false] at p'
        exact p'
      exact p.elim
  · exact p.elim
theorem de_meth {pl : Sem Bool} (ho : DE X L o mo) (hc : Cls X.K (L.cA c)) (hm : Meth X.K (L.cA c) m f) (F : FnT X.prog X.w X.K X.mg X.base L.cA k f fd ps io g) (hr : Roo k X.A) (tk : Takes X L.W) (hb : Binds X.K fd ps us) (hd : Vals dvs us) (hdd : Dfl X.K L.cA dds dvs) (ha : DL X L (e :: es) ls ms)
    (hn : 1 + ls.length + dds.length = ps.length := by rfl) (hio : io.all (fun i => decide (i < ps.length)) = true := by rfl) (hst : starEach (e :: es) X.env = (false, eval e X.env) :: starEach es X.env := by rfl) (hpl : (backTo pos (starEach es X.env)).any (·.1) = false := by rfl)
    (ht : eval (.Call (.Attribute o m apos) (e :: es) [] pos) X.env = (do
      let ov ← eval o X.env
      standAt apos.atName
      let (f, first) ← holding [ov] (getMethod ov m pl)
      callWith pos f first (backTo pos (starEach (e :: es) X.env)) (backToKw pos (keywordEach [] X.env))) := by rfl) : DE X L (.Call (.Attribute o m apos) (e :: es) [] pos) (mMeth c m ls io dds g mo ms) :=
  ⟨pe_to (pe_methSD (E := fun σ => WE L.W σ) ho.pe hc hm F hr hb hd (fun σ => passAt tk σ) ha.pa hst hpl ht) (lft_meth hdd hn hio)⟩
theorem de_meth0 {pl : Sem Bool} (ho : DE X L o mo) (hc : Cls X.K (L.cA c)) (hm : Meth X.K (L.cA c) m f) (F : FnT X.prog X.w X.K X.mg X.base L.cA k f fd ps io g) (hr : Roo k X.A) (tk : Takes X L.W) (hb : Binds X.K fd ps us) (hd : Vals dvs us) (hdd : Dfl X.K L.cA dds dvs)
    (hn : 1 + 0 + dds.length = ps.length := by rfl) (hio : io.all (fun i => decide (i < ps.length)) = true := by rfl)
    (ht : eval (.Call (.Attribute o m apos) [] [] pos) X.env = (do
      let ov ← eval o X.env
      standAt apos.atName
      let (f, first) ← holding [ov] (getMethod ov m pl)
      callWith pos f first (backTo pos (starEach [] X.env)) (backToKw pos (keywordEach [] X.env))) := by rfl) : DE X L (.Call (.Attribute o m apos) [] [] pos) (mMeth c m [] io dds g mo mNil) :=
  ⟨pe_to (pe_methSD0 (E := fun σ => WE L.W σ) ho.pe hc hm F hr hb hd (fun σ => passAt tk σ) ht) fun σ H Q h => by
    obtain ⟨ρ, F, A, st, en, p⟩ := lft_meth (ls := []) (ms := mNil) (ps := ps) hdd hn hio σ H Q h
    refine ⟨ρ, F, A, st, en, ?_⟩
    cases em : mo ρ with
    | bad => rw [em] at p; exact p
    | exc x ρ1 => rw [em] at p; exact p
    | ok d ρ1 =>
      rw [em] at p
      intro v H' F' A' B s dj en' q
      obtain ⟨a, dx, fs, e1, e2, e3, q4⟩ := p v H' F' A' B s dj en' q
      refine ⟨a, dx, fs, e1, e2, e3, ?_⟩
      obtain ⟨ρ2, F2, A2, st2, en2, p2⟩ := q4
      exact p2.val (A1 := A2) st2 (fun _ x => x) en2 ⟨rfl, rfl⟩⟩
/-- C(e, ..) -/
def tMakeSD (C : Addr) (sp : Sp) (dvs : List V) (E : L2.St → XK) (t : TA) : TE := fun σ H Q => t σ H fun vs H1 => ∀ x dx, H1 x = none → H1 dx = none → dx ≠ x →
  sp (.ref x :: (vs ++ dvs)) (upd (upd H1 dx (.own x)) x (.ins C dx [])) (fun v H2 => v = .non ∧ Q (.ref x) H2) (E σ)

theorem run_makeSD {pins : List (Addr × Obj)} {σ : L2.St} {H : Hp} {s : Shared} {Q : VK} {ws : List Value} {vs : List V} (M : Mk X.K C f) (F : FnG X.prog X.w X.K X.mg X.base (L2.CX X.prog X.w) k f fd ps sp) (hr : Roo (k + 1) X.A) (hb : Binds X.K fd ps us) (hd : Vals dvs us)
    (hx : PassesAt (L2.CX X.prog X.w) X σ (E σ)) (I : Inv X pins σ H s) (r : Vals vs ws)
    (h : ∀ x dx, H x = none → H dx = none → dx ≠ x → sp (.ref x :: (vs ++ dvs)) (upd (upd H dx (.own x)) x (.ins C dx [])) (fun v H2 => v = .non ∧ Q (.ref x) H2) (E σ)) :
    wpAny (model X.prog X.w) X.A (call (.ref C) ws) (EP X pins σ Q) X.xe s := by
  have hq := h (s.heap.objs.size + 1) s.heap.objs.size (I.hok.fresh (Nat.le_succ _)) (I.hok.fresh (Nat.le_refl _)) (Nat.ne_of_lt (Nat.lt_succ_self _))
  have I2 := Inv.made (C := C) I
  have r2 : Vals (V.ref (s.heap.objs.size + 1) :: (vs ++ dvs)) (Value.ref (s.heap.objs.size + 1) :: (ws ++ us)) := .cons rfl (r.append hd)
  have hl : (Value.ref (s.heap.objs.size + 1) :: ws ++ us).length = ps.length := by
    have e := r2.length
    rw [F.len _ _ _ _ hq] at e
    exact e.symm
  refine wpAny_call (make_map (f := f) I.kIn M.makes M.init (beq_iff_eq.mp M.fn) (codeAny_mono (F.run _ X.stack _ _ ⟨Value.ref (s.heap.objs.size + 1) :: ws, []⟩ (Value.ref (s.heap.objs.size + 1) :: (ws ++ us)) _ _ (E σ) (hr.make C ws [])
    (I2.env0.make C ws []) (hb _ (Value.ref (s.heap.objs.size + 1) :: ws) I2.kIn hl) r2 hq) fun r s' hq' => ?_))
  cases r with
  | error e => exact hx pins _ _ e s' I2 hq'
  | ok fl =>
    cases fl with
    | ret u =>
      obtain ⟨v, H', I3, rv, ev, q3⟩ := I2.after hq'
      subst ev
      exact ⟨rv, ⟨V.ref (s.heap.objs.size + 1), H', I3, rfl, q3⟩⟩
    | next => exact False.elim hq'
    | brk => exact False.elim hq'
    | cont => exact False.elim hq'
theorem pe_makeSD (M : Mk X.K C f) (F : FnG X.prog X.w X.K X.mg X.base (L2.CX X.prog X.w) k f fd ps sp) (hr : Roo (k + 1) X.A) (hg : Gl X x) (hm : X.mg x = some (.ref C)) (hb : Binds X.K fd ps us) (hd : Vals dvs us) (hx : ∀ σ, PassesAt (L2.CX X.prog X.w) X σ (E σ))
    (ha : PA X (e :: es) t) (hdb : (x == ("__debug__" : Str)) = false) (he : starEach (e :: es) X.env = (false, eval e X.env) :: starEach es X.env) (hpl : (backTo pos (starEach es X.env)).any (·.1) = false) :
    PE X (.Call (.Name x p) (e :: es) [] pos) (tMakeSD C sp dvs E t) := ⟨fun pins s σ H Q I h => by
  refine wpAny_Call_Name_kw (ld_glob I hg hm ?_ hdb)
  refine PySem.W.callWith_K (h₀ := X.base) I.ok.mod.kin M.kp (thn (ha.run pos pins s σ H _ I h) fun ws s1 ⟨vs, H1, I1, r, q⟩ => ⟨I1.kIn, ?_⟩) he hpl
  exact run_makeSD M F hr hb hd (hx σ) I1 r q⟩
theorem make_step {F A : FP} {H : Hp} {x dx : Addr} {C : Addr} (st : Sta F A H) (nx : H x = none) (nd : H dx = none) (ne : dx ≠ x) : Step F A H F (un A (· = x)) (upd (upd H dx (.own x)) x (.ins C dx [])) := by
  have nx' : upd H dx (.own x) x = none := by rw [upd_ne (Ne.symm ne)]; exact nx
  have dm : ∀ b, H b ≠ none → upd (upd H dx (.own x)) x (.ins C dx []) b ≠ none := fun b e => by
    cases q : H b with
    | none => exact absurd q e
    | some o => rw [new_keep nx' b o (new_keep nd b o q)]; exact fun z => nomatch z
  refine ⟨fun b o e _ => new_keep nx' b o (new_keep nd b o e), dm, fun _ z => z, fun _ z => .inl z, fun b z => z.imp id fun z => by rw [z]; exact nx, ⟨fun b y z => y.elim (fun y => st.dj b y z) fun y => st.dom b (.inl z) (by rw [y]; exact nx), fun b z => ?_, fun b vs z => ?_⟩⟩
  · rcases z with z | z | z
    · exact dm b (st.dom b (.inl z))
    · exact dm b (st.dom b (.inr z))
    · rw [z, upd_same]; exact fun y => nomatch y
  · rcases z with z | z
    · intro y
      cases q : H b with
      | none => exact st.dom b (.inr z) q
      | some o =>
        rw [new_keep nx' b o (new_keep nd b o q)] at y
        exact st.nt b vs z (q.trans y)
    · rw [z, upd_same]; exact fun y => nomatch y
def afterM (ρ : Ro) : RF → R D
  | .ok .non [d] => .ok d ρ
  | .exc x _ => .exc x ρ
  | _ => .bad
def mMake (c : Cid) (n : Nat) (dds : List D) (g : List D → RF) (ms : Ro → R (List D)) : Ro → R D := fun ρ => (ms ρ).bind fun ds ρ1 => if ds.length = n then afterM ρ1 (g (.ins true c [] [] :: (ds ++ dds))) else .bad
theorem de_make {n : Nat} (M : Mk X.K (L.cA c) f) (F : FnT X.prog X.w X.K X.mg X.base L.cA k f fd ps [0] g) (hr : Roo (k + 1) X.A) (tk : Takes X L.W) (hm : X.mg x = some (.ref (L.cA c))) (hb : Binds X.K fd ps us) (hd : Vals dvs us) (hdd : Dfl X.K L.cA dds dvs)
    (ha : DA X L (e :: es) ms) (hn : 1 + n + dds.length = ps.length := by rfl) (hg : Gl X x := by rfl) (hdb : (x == ("__debug__" : Str)) = false := by decide) (he : starEach (e :: es) X.env = (false, eval e X.env) :: starEach es X.env := by rfl) (hpl : (backTo pos (starEach es X.env)).any (·.1) = false := by rfl) :
    DE X L (.Call (.Name x p) (e :: es) [] pos) (mMake c n dds g ms) := ⟨pe_to (pe_makeSD (E := fun σ => WE L.W σ) M F hr hg hm hb hd (fun σ => passAt tk σ) ha.pa hdb he hpl) fun σ H Q h => by
  refine lft_bind h fun vs H1 F1 A1 B1 ds ρ1 st dj en q p => ?_
  by_cases hl : ds.length = n
  · have p : Post X.K L rE F1 (un A1 B1) H1 σ Q (afterM ρ1 (g (.ins true c [] [] :: (ds ++ dds)))) := by simpa [hl] using p
    intro x dx nx nd ne
    have r := q.append (hdd F1 H1) (fun _ _ z => z.elim)
    have r := r.move (A' := B1) (fun _ x => x) (fun _ _ _ e => e) fun b x => x.elim id False.elim
    have s1 := make_step (C := L.cA c) st nx nd ne
    have nx' : upd H1 dx (.own x) x = none := by rw [upd_ne (Ne.symm ne)]; exact nx
    have kp : ∀ b o, H1 b = some o → upd (upd H1 dx (.own x)) x (.ins (L.cA c) dx []) b = some o := fun b o e => new_keep nx' b o (new_keep nd b o e)
    have nA : ∀ b, A1 b → b ≠ x := fun b y z => st.dom b (.inr (.inl y)) (by rw [z]; exact nx)
    have nB : ∀ b, B1 b → b ≠ x := fun b y z => st.dom b (.inr (.inr y)) (by rw [z]; exact nx)
    have s2 : Step F1 (un A1 B1) H1 F1 (un (un B1 (· = x)) A1) (upd (upd H1 dx (.own x)) x (.ins (L.cA c) dx [])) := s1.sub fun b y => y.elim (fun y => y.elim (fun y => .inl (.inr y)) .inr) fun y => .inl (.inl y)
    have dA : Dj (un B1 (· = x)) A1 := fun b y z => y.elim (fun y => dj b z y) (nA b z)
    have en2 := en.move (F' := F1) (H' := upd (upd H1 dx (.own x)) x (.ins (L.cA c) dx [])) (A' := A1) (fun _ y => y) (fun b o _ e => kp b o e) (fun _ y => y)
    have rr : Reps X.K L.cA F1 (upd (upd H1 dx (.own x)) x (.ins (L.cA c) dx [])) (.ins true c [] [] :: (ds ++ dds)) (.ref x :: (vs ++ dvs)) (un B1 (· = x)) :=
      ⟨_, _, (· = x), B1, rfl, ⟨fun b y => .inr y, fun b y => .inl y, fun b y z => nB b z y⟩, ⟨x, [], dx, no, rfl, upd_same, rfl, rfl, fun _ z => z.elim, rfl⟩, r.move (fun _ y => y) (fun b o _ e => kp b o e) fun _ y => y⟩
    refine ⟨?_, _, F1, un B1 (· = x), s2.sta.sub fun b y => .inl y, rr, ?_⟩
    · rw [List.length_cons, List.length_append, ← q.len, hl, ← (hdd F1 H1).len]
      omega
    · have s0 := Step.refl s2.sta
      cases er : g (.ins true c [] [] :: (ds ++ dds)) with
      | bad => rw [er] at p; exact p
      | exc z os =>
        rw [er] at p
        intro cc dd H' F' A' s rs qe
        obtain ⟨s3, d3, kb⟩ := s0.seq dA s
        exact p cc dd H' F' A1 ((s2.trans s3).sub fun b y => .inr y) (en2.move s.fr kb fun _ y => y) qe
      | ok d os =>
        rw [er] at p
        intro v H' F' A' B s dj' rs qv
        obtain ⟨s3, d3, kb⟩ := s0.seq dA s
        unfold afterM at p
        split at p
        · rename_i d' e1
          cases e1
          obtain ⟨v', vs', A2, A3, e2, sp, r2, r3⟩ := rs
          cases r3
          cases e2
          refine ⟨qv, p _ H' F' A1 A2 ((s2.trans s3).sub fun b y => y.elim .inr fun y => .inl (.inl (sp.l b y))) (fun b y z => d3 b (.inl (sp.l b z)) y) (en2.move s.fr kb fun _ y => y) r2⟩
        · rename_i e1; cases e1
        · exact p.elim
  · have p : Post X.K L rE F1 (un A1 B1) H1 σ Q R.bad := by simpa [hl] using p
    exact p.elim⟩
end
end T
end

section
set_option Elab.async false
set_option linter.all false
set_option maxRecDepth 100000
set_option maxHeartbeats 4000000
namespace T
open PySem PySem.Spec PyProof.Rows L2
/-! ### comprehensions -/
def wipeR (ρ : Ro) : List Nat → Ro
  | [] => ρ
  | v :: vs => (wipeR ρ vs).set v none
theorem wipe_get {σ : L2.St} {i : Nat} : ∀ {vs : List Nat}, (wipe σ vs)[i]? = if i ∈ vs then σ[i]?.map fun _ => none else σ[i]?
  | [] => by simp [wipe]
  | v :: vs => by
    unfold wipe
    by_cases e : v = i
    · subst e
      by_cases l : v < (wipe σ vs).length
      · rw [List.getElem?_set_self l]
        have l2 : v < σ.length := by rw [wipe_length] at l; exact l
        simp [List.getElem?_eq_getElem l2]
      · rw [List.getElem?_eq_none (by simpa using l)]
        have l2 : ¬ v < σ.length := by rw [wipe_length] at l; exact l
        simp [List.getElem?_eq_none (Nat.le_of_not_lt l2)]
    · rw [List.getElem?_set_ne e, wipe_get (vs := vs)]
      have e2 : (i = v) = False := by simp; exact fun z => e z.symm
      simp [e2]
theorem wipe_agr {sl : List Nat} {σ σ' : L2.St} (h : Agr sl σ σ') : wipe σ' sl = wipe σ sl := by
  apply List.ext_getElem?
  intro i
  rw [wipe_get, wipe_get]
  by_cases e : i ∈ sl
  · rw [if_pos e, if_pos e]
    by_cases l : i < σ.length
    · rw [List.getElem?_eq_getElem l, List.getElem?_eq_getElem (by rw [h.1]; exact l)]
      rfl
    · rw [List.getElem?_eq_none (Nat.le_of_not_lt l), List.getElem?_eq_none (by rw [h.1]; exact Nat.le_of_not_lt l)]
  · rw [if_neg e, if_neg e]
    exact h.2 i e
theorem wipe_wipe {σ : L2.St} {sl : List Nat} : wipe (wipe σ sl) sl = wipe σ sl := by
  apply List.ext_getElem?
  intro i
  rw [wipe_get, wipe_get]
  by_cases e : i ∈ sl
  · rw [if_pos e, if_pos e, Option.map_map]; rfl
  · rw [if_neg e, if_neg e]
theorem Agr.wipe {sl : List Nat} {σ : L2.St} : Agr sl σ (wipe σ sl) := ⟨wipe_length _ _, fun j hj => by rw [wipe_get, if_neg hj]⟩
theorem wipeR_get {ρ : Ro} {i : Nat} : ∀ {vs : List Nat}, (wipeR ρ vs)[i]? = if i ∈ vs then ρ[i]?.map fun _ => none else ρ[i]?
  | [] => by simp [wipeR]
  | v :: vs => by
    have len : ∀ vs : List Nat, (wipeR ρ vs).length = ρ.length := fun vs => by
      induction vs with
      | nil => rfl
      | cons v vs ih => unfold wipeR; rw [List.length_set, ih]
    unfold wipeR
    by_cases e : v = i
    · subst e
      by_cases l : v < (wipeR ρ vs).length
      · rw [List.getElem?_set_self l]
        have l2 : v < ρ.length := by rw [len] at l; exact l
        simp [List.getElem?_eq_getElem l2]
      · rw [List.getElem?_eq_none (by simpa using l)]
        have l2 : ¬ v < ρ.length := by rw [len] at l; exact l
        simp [List.getElem?_eq_none (Nat.le_of_not_lt l2)]
    · rw [List.getElem?_set_ne e, wipeR_get (vs := vs)]
      have e2 : (i = v) = False := by simp; exact fun z => e z.symm
      simp [e2]
section
variable {K : Frag} {cA : Cid → Addr} {F : FP} {H : Hp}
/-- the slots of forgotten names may hold anything -/
theorem EnvR.agr : ∀ {ρ : Ro} {σ σ' : List (Option V)} {A : FP}, EnvR K cA F H ρ σ A → σ'.length = σ.length → (∀ (j : Nat) (d : D), ρ[j]? = some (some d) → σ'[j]? = σ[j]?) → EnvR K cA F H ρ σ' A
  | [], σ, σ', A, h, l, _ => by
    cases h
    exact List.length_eq_zero_iff.mp l
  | none :: ρ, _, σ', A, h, l, k => by
    obtain ⟨o, σ1, rfl, r⟩ := h
    cases σ' with
    | nil => cases l
    | cons o' σ2 => exact ⟨o', σ2, rfl, EnvR.agr r (by simpa using l) fun j d e => by simpa using k (j + 1) d (by simpa using e)⟩
  | some d :: ρ, _, σ', A, h, l, k => by
    obtain ⟨v, σ1, A1, A2, rfl, s, r, rs⟩ := h
    cases σ' with
    | nil => cases l
    | cons o' σ2 =>
      have e := k 0 d rfl
      simp at e
      subst e
      exact ⟨v, σ2, A1, A2, rfl, s, r, EnvR.agr rs (by simpa using l) fun j d e => by simpa using k (j + 1) d (by simpa using e)⟩
theorem EnvR.wipeR {ρ : Ro} {σ : List (Option V)} {A : FP} (h : EnvR K cA F H ρ σ A) : ∀ vs : List Nat, EnvR K cA F H (T.wipeR ρ vs) σ A
  | [] => h
  | v :: vs => by
    unfold T.wipeR
    have z := (EnvR.wipeR h vs).drop (i := v) (o := (σ[v]?).join)
    by_cases l : v < σ.length
    · rw [List.getElem?_eq_getElem l] at z
      have e : σ.set v (some σ[v]).join = σ := set_same (by rw [List.getElem?_eq_getElem l]; rfl)
      rw [e] at z
      exact z
    · rw [List.set_eq_of_length_le (l := σ) (by omega)] at z
      exact z
/-- .. of wiped ones -/
theorem EnvR.wiped {ρ : Ro} {σ σ' : List (Option V)} {A : FP} {vs : List Nat} (h : EnvR K cA F H (T.wipeR ρ vs) σ A) (ag : Agr vs σ σ') : EnvR K cA F H (T.wipeR ρ vs) σ' A := h.agr ag.1 fun j d e => ag.2 j fun hj => by
  rw [wipeR_get, if_pos hj] at e
  cases q : ρ[j]? with
  | none => rw [q] at e; cases e
  | some o => rw [q] at e; cases e
end
structure DTs (X : Cx) (L : Lc) (es : List Expr) (m : Ro → R Bool) : Prop where
  pt : PTs X es (lft X.K L rT m)
def mYes : Ro → R Bool := fun ρ => .ok true ρ
theorem pts_to {X : Cx} {e : List Expr} {t t' : TT} (h : PTs X e t) (i : ∀ σ H Q, t' σ H Q → t σ H Q) : PTs X e t' := ⟨fun pins s σ H Q I q => h.run pins s σ H Q I (i σ H Q q)⟩
theorem dts_nil {X : Cx} {L : Lc} : DTs X L [] mYes := ⟨pts_to pts_nil fun σ H Q ⟨ρ, F, A, st, en, p⟩ => p.val (A1 := A) st (fun _ x => x) en rfl⟩
theorem dts_one {X : Cx} {L : Lc} {c : Expr} {m : Ro → R Bool} (h : DT X L c m) : DTs X L [c] m := ⟨pts_one h.pt⟩
theorem un_r {A B C : FP} : ∀ b, un (un A B) C b → un A (un B C) b := fun b x => x.elim (fun x => x.imp id .inl) fun x => .inr (.inr x)
def lcLoop (g : D → Ro → Option Ro) (tt : Ro → R Bool) (te : Ro → R D) (own : List Nat) : List D → List D → Ro → R D
  | [], acc, ρ => .ok (.lst true acc) ρ
  | d :: ds, acc, ρ => match g d ρ with
    | none => .bad
    | some ρ2 => match tt ρ2 with
      | .ok true ρ3 => (match te ρ3 with
        | .ok e ρ4 => if decide (acc.length < sizeLine) then lcLoop g tt te own ds (acc ++ [e]) (wipeR ρ4 own) else .bad
        | _ => .bad)
      | .ok false ρ3 => lcLoop g tt te own ds acc (wipeR ρ3 own)
      | _ => .bad
def mLc (mi : Ro → R (List D)) (g : D → Ro → Option Ro) (tt : Ro → R Bool) (te : Ro → R D) (own : List Nat) : Ro → R D := fun ρ => (mi ρ).bind fun ds ρ1 => lcLoop g tt te own ds [] (wipeR ρ1 own)
def noW : WX := fun _ _ _ _ => False
/-- within a block: nothing is raised out of it, no name of the def is stored -/
abbrev Lc.blk (L : Lc) : Lc := ⟨L.cA, noW, []⟩
theorem lft_lc {K : Frag} {L : Lc} {mi : Ro → R (List D)} {g : D → Ro → Option Ro} {tt : Ro → R Bool} {te : Ro → R D} {own : List Nat} : ∀ σ H Q, lft K L rE (mLc mi g tt te own) σ H Q →
    tLc (lftI K L mi) (lftG K L.blk own g) (lft K L.blk rT tt) (lft K L.blk rE te) own σ H Q := by
  rintro σ H Q ⟨ρ, F, A, st, en, p⟩
  refine ⟨ρ, F, A, st, en, ?_⟩
  unfold mLc at p
  cases e : mi ρ with
  | bad => rw [e] at p; exact p
  | exc x ρ1 => rw [e] at p; exact p
  | ok ds ρ1 =>
    rw [e] at p
    intro J H1 F1 A1 s1 en1 run
    have p1 : Post K L rE F1 A1 H1 σ Q (lcLoop g tt te own ds [] (wipeR ρ1 own)) := Post.step s1 p
    intro D0 nD
    have sD := new_step (o := .lst []) s1.sta nD (fun _ z => nomatch z)
    have enB : EnvR K L.cA F1 (upd H1 D0 (.lst [])) (wipeR ρ1 own) (wipe σ own) A1 := ((en1.env.wipeR own).wiped Agr.wipe).move (fun _ x => x) (fun b o _ e => new_keep nD b o e) fun _ x => x
    refine ⟨fun i m H => m = ds.length - i ∧ i ≤ ds.length ∧ ∃ acc vs ρ F2 A2 B2, Sta F2 (un (un A2 B2) (· = D0)) H ∧ Dj A2 B2 ∧ (∀ b, A2 b ∨ B2 b → b ≠ D0) ∧ EnvR K L.cA F2 H (wipeR ρ own) (wipe σ own) A2 ∧ Reps K L.cA F2 H acc vs B2 ∧ H D0 = some (.lst vs) ∧
        (∀ b, F1 b → F2 b) ∧ (∀ b o, F1 b → H1 b = some o → H b = some o) ∧ Post K L rE F2 (un (un A2 B2) (· = D0)) H σ Q (lcLoop g tt te own (ds.drop i) acc (wipeR ρ own)),
      ⟨_, rfl, Nat.zero_le _, [], [], ρ1, F1, A1, no, sD.sta.sub fun b x => x.imp (fun x => x.elim id False.elim) id, fun _ _ z => z.elim, fun b x z => x.elim (fun x => s1.sta.dom b (.inr x) (by rw [z]; exact nD)) id, enB, rfl, upd_same, fun _ x => x, fun b o _ e => new_keep nD b o e, Post.step (sD.sub fun b x => x.imp (fun x => x.elim id False.elim) id) p1⟩, ?_⟩
    rintro i m H2 ⟨rfl, hi, acc, vs, ρ2, F2, A2, B2, st2, dj2, nL, en2, ra, hD, f2, k2, p2⟩
    have nF : ∀ b, F2 b → b ≠ D0 := fun b x z => st2.dj b (.inr z) x
    by_cases hlt : i < ds.length
    · have hd : ds[i]? = some ds[i] := List.getElem?_eq_getElem hlt
      obtain ⟨go, yl⟩ := run.go i ds[i] H2 F2 _ hd st2 f2 k2
      rw [List.drop_eq_getElem_cons hlt] at p2
      refine .inr ⟨go, fun H' => i + 1 ≤ ds.length ∧ ∃ acc vs ρ F2 A2 B2, Sta F2 (un (un A2 B2) (· = D0)) H' ∧ Dj A2 B2 ∧ (∀ b, A2 b ∨ B2 b → b ≠ D0) ∧ EnvR K L.cA F2 H' (wipeR ρ own) (wipe σ own) A2 ∧ Reps K L.cA F2 H' acc vs B2 ∧ H' D0 = some (.lst vs) ∧
        (∀ b, F1 b → F2 b) ∧ (∀ b o, F1 b → H1 b = some o → H' b = some o) ∧ Post K L rE F2 (un (un A2 B2) (· = D0)) H' σ Q (lcLoop g tt te own (ds.drop (i + 1)) acc (wipeR ρ own)), fun H' q => ⟨ds.length - (i + 1), by omega, rfl, q⟩, fun x H3 y => ?_⟩
      obtain ⟨ka, F3, s3, r3⟩ := yl x H3 y
      have p3 := Post.step s3 p2
      -- the rest stands: B2 and D0
      have T0 : ∀ b, un (un A2 B2) (· = D0) b → un A2 (un B2 (· = D0)) b := fun b x => x.elim (fun x => x.imp id .inl) fun x => .inr (.inr x)
      have T1 : ∀ b, un A2 (un B2 (· = D0)) b → un (un A2 B2) (· = D0) b := fun b x => x.elim (fun x => .inl (.inl x)) fun x => x.elim (fun x => .inl (.inr x)) .inr
      have sR : Step F3 (un A2 (un B2 (· = D0))) H3 F3 (un A2 (un B2 (· = D0))) H3 := Step.refl (s3.sta.sub T1)
      have dR : Dj A2 (un B2 (· = D0)) := fun b x y => y.elim (dj2 b x) (nL b (.inl x))
      refine ⟨wipeR ρ2 own, F3, A2, no, ds[i], s3.sta.sub (fun b x => x.elim (fun x => .inl (.inl x)) False.elim), fun _ _ z => z.elim, ⟨en2.move s3.fr (fun b o _ e => ka b o e) (fun _ z => z), fun _ h => by cases h⟩, r3, ?_⟩
      cases eg : g ds[i] (wipeR ρ2 own) with
      | none => simp only [lcLoop, eg] at p3; exact p3
      | some ρ3 =>
        simp only [lcLoop, eg] at p3
        intro σ4 H4 F4 A4 ag s4 en4
        have w4 : wipe σ4 own = wipe σ own := (wipe_agr ag).trans wipe_wipe
        refine ⟨w4.trans wipe_wipe.symm |>.trans wipe_wipe, ρ3, F4, A4, s4.sta, en4, ?_⟩
        obtain ⟨s4', d4, kb4⟩ := sR.seq dR (s4.pre fun b x => x.elim id False.elim)
        have f4 : ∀ b, F1 b → F4 b := fun b x => s4.fr b (s3.fr b (f2 b x))
        have k4 : ∀ b o, F1 b → H1 b = some o → H4 b = some o := fun b o x e => kb4 b o (.inl (s3.fr b (f2 b x))) (ka b o (k2 b o x e))
        have ra4 : Reps K L.cA F4 H4 acc vs B2 := ra.move (fun b x => s4.fr b (s3.fr b x)) (fun b o x e => kb4 b o (x.imp (s3.fr b) .inl) (ka b o e)) fun _ x => x
        have hD4 : H4 D0 = some (.lst vs) := kb4 D0 _ (.inr (.inr rfl)) (ka D0 _ hD)
        cases et : tt ρ3 with
        | bad => simp only [et] at p3; exact p3
        | exc z ρ5 => simp only [et] at p3; exact p3.elim
        | ok c ρ5 =>
          intro b' H5 F5 A5 B5 s5 dj5 en5 q5
          cases q5
          have s5' := s5.sub (A'' := A5) fun b x => .inl x
          obtain ⟨s5'', d5, kb5⟩ := s4'.seq d4 s5'
          have p5 := Post.step (s5''.pre T1) p3
          have ra5 : Reps K L.cA F5 H5 acc vs B2 := ra4.move s5.fr (fun b o x e => kb5 b o (x.imp id .inl) e) fun _ x => x
          have hD5 : H5 D0 = some (.lst vs) := kb5 D0 _ (.inr (.inr rfl)) hD4
          have f5 : ∀ b, F1 b → F5 b := fun b x => s5.fr b (f4 b x)
          have k5 : ∀ b o, F1 b → H1 b = some o → H5 b = some o := fun b o x e => kb5 b o (.inl (f4 b x)) (k4 b o x e)
          have en5w : ∀ {F' H' A' ρ'}, EnvR K L.cA F' H' ρ' σ4 A' → EnvR K L.cA F' H' (wipeR ρ' own) (wipe σ own) A' := fun {F' H' A' ρ'} h => by
            have z := (h.wipeR own).wiped (Agr.wipe (sl := own) (σ := σ4))
            rw [w4] at z
            exact z
          cases c with
          | false =>
            simp only [et] at p5
            refine ⟨hlt, acc, vs, ρ5, F5, A5, B2, s5''.sta.sub un_r, fun b x y => d5 b x (.inl y), fun b x => x.elim (fun x z => d5 b x (.inr z)) fun x => nL b (.inr x), en5w en5.env, ra5, hD5, f5, k5, Post.step ((Step.refl s5''.sta).sub un_r) p5⟩
          | true =>
            simp only [et] at p5
            refine ⟨ρ5, F5, A5, s5'.sta, en5, ?_⟩
            cases ee : te ρ5 with
            | bad => simp only [ee] at p5; exact p5
            | exc z ρ6 => simp only [ee] at p5; exact p5.elim
            | ok e' ρ6 =>
              simp only [ee] at p5
              intro y H6 F6 A6 B6 s6 dj6 en6 q6
              obtain ⟨s6', d6, kb6⟩ := s5''.seq d5 s6
              have p6 := Post.step ((Step.refl s5''.sta).seq d5 s6).1 p5
              have ra6 : Reps K L.cA F6 H6 acc vs B2 := ra5.move s6.fr (fun b o x e => kb6 b o (x.imp id .inl) e) fun _ x => x
              have hD6 : H6 D0 = some (.lst vs) := kb6 D0 _ (.inr (.inr rfl)) hD5
              split at p6
              · rename_i hz
                have hz := of_decide_eq_true hz
                refine ⟨vs, hD6, by rw [← ra6.len]; exact hz, hlt, ?_⟩
                have nA : ∀ b, A6 b ∨ B6 b ∨ B2 b → b ≠ D0 := fun b x z => x.elim (fun x => d6 b (.inl x) (.inr z)) fun x => x.elim (fun x => d6 b (.inr x) (.inr z)) fun x => nL b (.inr x) z
                have nF6 : ∀ b, F6 b → b ≠ D0 := fun b x z => s6'.sta.dj b (.inr (.inr z)) x
                have st6 : Sta F6 (un (un A6 (un B2 B6)) (· = D0)) H6 := s6'.sta.sub fun b x => x.elim (fun x => x.elim (fun x => .inl (.inl x)) fun x => x.elim (fun x => .inr (.inl x)) fun x => .inl (.inr x)) fun x => .inr (.inr x)
                have su := upd_step (w := .lst (vs ++ [y])) st6 hD6 (.inr rfl) (fun _ z => nomatch z)
                have ku : ∀ b o, F6 b ∨ (A6 b ∨ B6 b ∨ B2 b) → H6 b = some o → upd H6 D0 (.lst (vs ++ [y])) b = some o := upd_keep fun b x => x.elim (nF6 b) (nA b)
                refine ⟨acc ++ [e'], vs ++ [y], ρ6, F6, A6, un B2 B6, su.sta, fun b x y => y.elim (fun y => d6 b (.inl x) (.inl y)) (dj6 b x), fun b x => x.elim (fun x => nA b (.inl x)) fun x => x.elim (fun x => nA b (.inr (.inr x))) fun x => nA b (.inr (.inl x)), (en5w en6.env).move (fun _ x => x) (fun b o x e => ku b o (x.imp id .inl) e) fun _ x => x, ?_, upd_same, fun b x => s6.fr b (f5 b x), fun b o x e => ku b o (.inl (s6.fr b (f5 b x))) (kb6 b o (.inl (f5 b x)) (k5 b o x e)), ?_⟩
                · have r1 : Reps K L.cA F6 (upd H6 D0 (.lst (vs ++ [y]))) [e'] [y] B6 := ⟨y, [], B6, no, rfl, ⟨fun _ x => x, fun _ x => x.elim, fun _ _ x => x⟩, Rep.move (fun _ x => x) (fun b o x e => ku b o (x.imp id fun x => .inr (.inl x)) e) (fun _ x => x) q6, rfl⟩
                  exact (ra6.move (fun _ x => x) (fun b o x e => ku b o (x.imp id fun x => .inr (.inr x)) e) fun _ x => x).append r1 fun b x y => d6 b (.inr y) (.inl x)
                · have z : Step F6 (un (un A6 B6) (un B2 (· = D0))) H6 F6 (un (un A6 (un B2 B6)) (· = D0)) H6 := (Step.refl s6'.sta).sub fun b x => x.elim (fun x => x.elim (fun x => .inl (.inl x)) fun x => x.elim (fun x => .inr (.inl x)) fun x => .inl (.inr x)) fun x => .inr (.inr x)
                  exact Post.step (z.trans su) p6
              · exact p6.elim
    · have e0 : i = ds.length := by omega
      subst e0
      refine .inl ⟨run.stop _ H2 F2 _ (Nat.le_refl _) st2 f2 k2, ?_⟩
      rw [List.drop_length] at p2
      refine p2.ret (A1 := A2) (B := un B2 (· = D0)) st2 (fun b x => x.elim (fun x => .inl (.inl x)) fun x => x.elim (fun x => .inl (.inr x)) .inr) (fun b x y => y.elim (dj2 b x) (nL b (.inl x))) ?_ ?_
      · exact ⟨en2.wiped ⟨(wipe_length _ _).symm, fun j hj => by rw [wipe_get, if_neg hj]⟩, en1.pin⟩
      · exact ⟨D0, vs, B2, rfl, hD, .inr rfl, fun b x => ⟨.inl x, nL b (.inr x)⟩, ra⟩
end T
end

section
set_option Elab.async false
set_option linter.all false
set_option maxRecDepth 100000
set_option maxHeartbeats 4000000
namespace T
open PySem PySem.Spec PyProof.Rows L2
/-! ### what is walked -/
theorem fzs_get : ∀ {ds : List D} {i : Nat} {d : D}, (fzs ds)[i]? = some d → ∃ d', ds[i]? = some d' ∧ d = fz d'
  | [], _, _, e => by simp [fzs] at e
  | d' :: ds, 0, d, e => by simp [fzs] at e; exact ⟨d', rfl, e.symm⟩
  | d' :: ds, i + 1, d, e => by
    obtain ⟨x, e1, e2⟩ := fzs_get (ds := ds) (i := i) (by simpa [fzs] using e)
    exact ⟨x, by simpa using e1, e2⟩
theorem fzs_len : ∀ {ds : List D}, (fzs ds).length = ds.length
  | [] => rfl
  | _ :: ds => congrArg (· + 1) (fzs_len (ds := ds))
section
variable {K : Frag} {cA : Cid → Addr}
theorem runs_list {F : FP} {H0 : Hp} {a : Addr} {ds : List D} (r : Rep K cA F H0 (.lst false ds) (.ref a) no) : Runs K cA F H0 (Itl K a) ds := by
  have at_ : ∀ {H F1}, (∀ b, F b → F1 b) → (∀ b o, F b → H0 b = some o → H b = some o) → ∃ vs, SqL K H a vs ∧ Reps K cA F1 H ds vs no := fun {H F1} f k => by
    have r1 := r.move (F' := F1) (H' := H) (A' := no) f (fun b o x e => x.elim (fun x => k b o x e) False.elim) (fun _ x => x)
    obtain ⟨a', vs, e, t, rs⟩ := r1
    cases e
    exact ⟨vs, t.sq, rs⟩
  refine ⟨fun i d H F1 A1 hd st f k => ?_, fun i H F1 A1 hl st f k => ?_⟩
  · obtain ⟨vs, sq, rs⟩ := at_ f k
    obtain ⟨v, A2, e1, z, q⟩ := rs.get hd
    refine ⟨⟨vs, v, sq, e1⟩, fun x H' y => ?_⟩
    obtain ⟨rfl, y⟩ := y
    have e2 := y vs sq
    rw [e1] at e2
    cases e2
    exact ⟨fun _ _ e => e, F1, Step.refl st, q.move (fun _ x => x) (fun _ _ _ e => e) z⟩
  · obtain ⟨vs, sq, rs⟩ := at_ f k
    exact ⟨vs, sq, by rw [← rs.len]; exact hl⟩
theorem runs_tup {F : FP} {H0 : Hp} {a : Addr} {ds : List D} (r : Rep K cA F H0 (.tup ds) (.ref a) no) : Runs K cA F H0 (Itt K a) ds := by
  have at_ : ∀ {H F1}, (∀ b, F b → F1 b) → (∀ b o, F b → H0 b = some o → H b = some o) → ∃ vs, SqT K H a vs ∧ Reps K cA F1 H ds vs no := fun {H F1} f k => by
    have r1 := r.move (F' := F1) (H' := H) (A' := no) f (fun b o x e => x.elim (fun x => k b o x e) False.elim) (fun _ x => x)
    obtain ⟨a', vs, e, t, rs⟩ := r1
    cases e
    exact ⟨vs, t.sq, rs⟩
  refine ⟨fun i d H F1 A1 hd st f k => ?_, fun i H F1 A1 hl st f k => ?_⟩
  · obtain ⟨vs, sq, rs⟩ := at_ f k
    obtain ⟨v, A2, e1, z, q⟩ := rs.get hd
    refine ⟨⟨vs, v, sq, e1⟩, fun x H' y => ?_⟩
    obtain ⟨rfl, y⟩ := y
    have e2 := y vs sq
    rw [e1] at e2
    cases e2
    exact ⟨fun _ _ e => e, F1, Step.refl st, q.move (fun _ x => x) (fun _ _ _ e => e) z⟩
  · obtain ⟨vs, sq, rs⟩ := at_ f k
    exact ⟨vs, sq, by rw [← rs.len]; exact hl⟩
end
/-- what is owned is frozen from here on -/
theorem frz_step {F A B : FP} {H : Hp} (st : Sta F (un A B) H) (dj : Dj A B) : Step F (un A B) H (un F B) A H :=
  ⟨fun _ _ e _ => e, fun _ e => e, fun _ x => .inl x, fun b x => x.imp id fun x => .inl (.inr x), fun _ x => .inl (.inl x), ⟨fun b x y => y.elim (st.dj b (.inl x)) (dj b x), fun b x => x.elim (fun x => x.elim (fun x => st.dom b (.inl x)) fun x => st.dom b (.inr (.inr x))) fun x => st.dom b (.inr (.inl x)), fun b vs x => st.nt b vs (.inl x)⟩⟩
theorem pi_or {X : Cx} {tg e : Expr} {w w' : TI} (h : PI X tg e w) (h' : PI X tg e w') : PI X tg e (fun σ H R => w σ H R ∨ w' σ H R) :=
  ⟨fun pins s σ H R I q => q.elim (h.run pins s σ H R I) (h'.run pins s σ H R I)⟩
def oSeq : D → Ro → R (List D)
  | .lst _ ds, ρ => .ok (fzs ds) ρ
  | .tup ds, ρ => .ok (fzs ds) ρ
  | _, _ => .bad
section
variable {X : Cx} {L : Lc} {pos p : Pos} {tg e iter : Expr} {m : Ro → R D}
/-- a list or a tuple -/
theorem di_seq (he : DE X L e m) : DI X L tg e (fun ρ => (m ρ).bind oSeq) := ⟨pi_to (pi_or (pi_list he.pe) (pi_tup he.pe)) fun σ H Q ⟨ρ, F, A, st, en, p⟩ => by
  have p : PostI X.K L F A H σ Q ((m ρ).bind oSeq) := p
  cases er : m ρ with
  | bad => rw [er] at p; exact p.elim
  | exc x ρ1 =>
    rw [er] at p
    exact .inl ⟨ρ, F, A, st, en, by rw [er]; exact p⟩
  | ok d ρ1 =>
    rw [er] at p
    have fin : ∀ {v H1 F1 A1 B1} {J : It} {ds : List D}, Step F A H F1 (un A1 B1) H1 → Dj A1 B1 → EnvL X.K L F1 H1 ρ1 σ A1 → PostI X.K L F A H σ Q (.ok ds ρ1) → Runs X.K L.cA (un F1 B1) H1 J ds → Rep X.K L.cA F1 H1 d v B1 → Q J H1 := fun {v H1 F1 A1 B1 J ds} s dj en1 po run q =>
      po J H1 (un F1 B1) A1 (s.trans (frz_step s.sta dj)) (en1.move (fun _ x => .inl x) (fun _ _ _ e => e) fun _ x => x) run
    cases d <;> first | exact p.elim | skip
    · rename_i ds
      refine .inr ⟨ρ, F, A, st, en, ?_⟩
      rw [er]
      intro v H1 F1 A1 B1 s dj en1 q
      have q' := q.fz (F' := un F1 B1) (fun _ x => .inr x) (fun _ x => .inl x)
      obtain ⟨a, vs, rfl, t, rs⟩ := id q'
      exact ⟨a, rfl, ⟨vs, t.sq⟩, fin s dj en1 p (runs_tup q') q⟩
    · rename_i o ds
      refine .inl ⟨ρ, F, A, st, en, ?_⟩
      rw [er]
      intro v H1 F1 A1 B1 s dj en1 q
      have q' := q.fz (F' := un F1 B1) (fun _ x => .inr x) (fun _ x => .inl x)
      obtain ⟨a, vs, rfl, t, rs⟩ := id q'
      exact ⟨a, rfl, ⟨vs, t.sq⟩, fin s dj en1 p (runs_list q') q⟩⟩
def rng (lo : Int) (n : Nat) : List D := (List.range n).map fun i => .int (lo + (i : Nat))
theorem runs_range {K : Frag} {cA : Cid → Addr} {F : FP} {H0 : Hp} {lo : Int} {n : Nat} : Runs K cA F H0 (Itr lo n) (rng lo n) := by
  have len : (rng lo n).length = n := by simp [rng]
  refine ⟨fun i d H F1 A1 hd st f k => ?_, fun i H F1 A1 hl st f k => ?_⟩
  · have hi : i < n := by have := (List.getElem?_eq_some_iff.mp hd).1; rw [len] at this; exact this
    refine ⟨hi, fun x H' y => ?_⟩
    obtain ⟨rfl, rfl⟩ := y
    refine ⟨fun _ _ e => e, F1, Step.refl st, ?_⟩
    have e : d = .int (lo + (i : Nat)) := by
      unfold rng at hd
      rw [List.getElem?_map, List.getElem?_range hi] at hd
      exact (Option.some.inj hd).symm
    rw [e]
    rfl
  · rw [len] at hl
    exact hl
def inRng (i : Int) : Bool := decide (-(2 ^ 62) ≤ i) && decide (i < 2 ^ 62)
def oRange : List D → Ro → R (List D)
  | [.int j], ρ => if inRng j then .ok (rng 0 j.toNat) ρ else .bad
  | _, _ => .bad
def oRange2 : List D → Ro → R (List D)
  | [.int i, .int j], ρ => if inRng i && inRng j then .ok (rng i (j - i).toNat) ρ else .bad
  | _, _ => .bad
theorem lftI_bind {K : Frag} {ms : Ro → R (List D)} {f : List D → Ro → R (List D)} {σ : L2.St} {H : Hp} {Q : It → Hp → Prop} {Q' : List V → Hp → Prop} (h : lftI K L (fun ρ => (ms ρ).bind f) σ H Q)
    (k : ∀ y H1 F1 A1 B a ρ1, Sta F1 (un A1 B) H1 → Dj A1 B → EnvL K L F1 H1 ρ1 σ A1 → Reps K L.cA F1 H1 a y B → (∀ ds ρ2, f a ρ1 = .ok ds ρ2 → ∀ J H' F' A', Step F1 (un A1 B) H1 F' A' H' → EnvL K L F' H' ρ2 σ A' → Runs K L.cA F' H' J ds → Q J H') → (∃ ds ρ2, f a ρ1 = .ok ds ρ2) → Q' y H1) (hx : ∀ a ρ1 x ρ2, f a ρ1 ≠ .exc x ρ2) : lft K L rA ms σ H Q' := by
  obtain ⟨ρ, F, A, st, en, p⟩ := h
  refine ⟨ρ, F, A, st, en, ?_⟩
  have p : PostI K L F A H σ Q ((ms ρ).bind f) := p
  cases e : ms ρ with
  | bad => rw [e] at p; exact p
  | exc x ρ1 => rw [e] at p; exact p
  | ok a ρ1 =>
    rw [e] at p
    have p : PostI K L F A H σ Q (f a ρ1) := p
    intro y H1 F1 A1 B s d en1 q
    cases ef : f a ρ1 with
    | bad => rw [ef] at p; exact p.elim
    | exc x ρ2 => exact absurd ef (hx _ _ _ _)
    | ok ds ρ2 =>
      rw [ef] at p
      exact k y H1 F1 A1 B a ρ1 s.sta d en1 q (fun ds' ρ3 e J H' F' A' t en' run => by rw [ef] at e; cases e; exact p J H' F' A' (s.trans t) en' run) ⟨ds, ρ2, ef⟩
theorem oRange_ok {a : List D} {ρ ρ2 : Ro} {ds : List D} (h : oRange a ρ = .ok ds ρ2) : ∃ j, a = [.int j] ∧ inRng j = true ∧ ds = rng 0 j.toNat ∧ ρ2 = ρ := by
  unfold oRange at h
  split at h
  · split at h
    · rename_i c
      cases h
      exact ⟨_, rfl, c, rfl, rfl⟩
    · cases h
  · cases h
theorem oRange2_ok {a : List D} {ρ ρ2 : Ro} {ds : List D} (h : oRange2 a ρ = .ok ds ρ2) : ∃ i j, a = [.int i, .int j] ∧ inRng i = true ∧ inRng j = true ∧ ds = rng i (j - i).toNat ∧ ρ2 = ρ := by
  unfold oRange2 at h
  split at h
  · split at h
    · rename_i c
      cases h
      have c' := Bool.and_eq_true_iff.mp c
      exact ⟨_, _, rfl, c'.1, c'.2, rfl, rfl⟩
    · cases h
  · cases h
theorem inRng_ok {i : Int} (h : inRng i = true) : -(2 ^ 62) ≤ i ∧ i < 2 ^ 62 := by
  have c := Bool.and_eq_true_iff.mp h
  exact ⟨of_decide_eq_true c.1, of_decide_eq_true c.2⟩
theorem di_range {ms : Ro → R (List D)} (ha : DA X L [e] ms) (hm : X.mg "range" = none) (hg : Gl X "range" := by rfl) (hs : starEach [e] X.env = [(false, eval e X.env)] := by rfl) : DI X L tg (.Call (.Name "range" p) [e] [] pos) (fun ρ => (ms ρ).bind oRange) :=
  ⟨pi_to (pi_range1 hg hm ha.pa hs) fun σ H Q h => lftI_bind h (fun y H1 F1 A1 B a ρ1 st dj en q po ⟨ds, ρ2, eo⟩ => by
    obtain ⟨j, rfl, hb, rfl, rfl⟩ := oRange_ok eo
    obtain ⟨v, vs', B1, B2, rfl, s, r, rs⟩ := q
    cases r
    cases rs
    exact ⟨j, rfl, (inRng_ok hb).1, (inRng_ok hb).2, po _ _ eo _ H1 F1 A1 ((Step.refl st).sub fun b x => .inl x) en runs_range⟩) (fun a ρ1 x ρ2 z => by unfold oRange at z; split at z <;> (try split at z) <;> cases z)⟩
theorem di_range2 {e2 : Expr} {ms : Ro → R (List D)} (ha : DA X L [e, e2] ms) (hm : X.mg "range" = none) (hg : Gl X "range" := by rfl) (hs : starEach [e, e2] X.env = [(false, eval e X.env), (false, eval e2 X.env)] := by rfl) (hs2 : starEach [e2] X.env = [(false, eval e2 X.env)] := by rfl) : DI X L tg (.Call (.Name "range" p) [e, e2] [] pos) (fun ρ => (ms ρ).bind oRange2) :=
  ⟨pi_to (pi_range2 hg hm ha.pa hs hs2) fun σ H Q h => lftI_bind h (fun y H1 F1 A1 B a ρ1 st dj en q po ⟨ds, ρ2, eo⟩ => by
    obtain ⟨i, j, rfl, hi, hj, rfl, rfl⟩ := oRange2_ok eo
    obtain ⟨v, vs', B1, B2, rfl, s, r, rs⟩ := q
    obtain ⟨v2, vs2, B3, B4, rfl, s2, r2, rs2⟩ := rs
    cases r
    cases r2
    cases rs2
    exact ⟨i, j, rfl, ⟨(inRng_ok hi).1, (inRng_ok hi).2, (inRng_ok hj).1, (inRng_ok hj).2⟩, po _ _ eo _ H1 F1 A1 ((Step.refl st).sub fun b x => .inl x) en runs_range⟩) (fun a ρ1 x ρ2 z => by unfold oRange2 at z; split at z <;> (try split at z) <;> cases z)⟩
/-! ### the comprehension's rules -/
variable {elt : Expr} {ifs : List Expr} {scope : Scope} {own : List (Str × Nat)} {mi : Ro → R (List D)} {g : D → Ro → Option Ro} {tt : Ro → R Bool} {te : Ro → R D}
theorem de_lc (hc : X.calm = true) (hN : X.N.Nodup) (hi : DI X L tg iter mi) (ok : blkC X.N X.env.scope scope own = true)
    (hg : ∀ (s : Shared) (H : Hp) (C : Addr) (cl : List (Str × Addr)) (fp : List Addr), DG (X.blk s H scope (compEnvC scope cl C X.env) fp) L.blk tg (own.map (·.2)) g) (ht : ∀ (s : Shared) (H : Hp) (C : Addr) (cl : List (Str × Addr)) (fp : List Addr), DTs (X.blk s H scope (compEnvC scope cl C X.env) fp) L.blk ifs tt)
    (he : ∀ (s : Shared) (H : Hp) (C : Addr) (cl : List (Str × Addr)) (fp : List Addr), DE (X.blk s H scope (compEnvC scope cl C X.env) fp) L.blk elt te) (hs : ∀ x, foldedSetIterable iter X.env x = pure x := by intro _; rfl) :
    DE X L (.ListComp elt [⟨tg, iter, ifs, 0⟩] scope pos) (mLc mi g tt te (own.map (·.2))) :=
  ⟨pe_to (pe_lc hc hN hi.pi (blkOk_by ok) (fun s H C cl fp => (hg s H C cl fp).pg) (fun s H C cl fp => (ht s H C cl fp).pt) (fun s H C cl fp => (he s H C cl fp).pe) hs) lft_lc⟩
/-- name = [..] -/
theorem ds_setLc (i : Nat) {y : Str} {py spos : Pos} (hc : X.calm = true) (hN : X.N.Nodup) (hsw : swapsWith (.ListComp elt [⟨tg, iter, ifs, 0⟩] scope pos) (some (.Name y py)) spos.line X.env = pure true) (hi : DI X L tg iter mi) (ok : blkC X.N X.env.scope scope own = true)
    (hg : ∀ (s : Shared) (H : Hp) (C : Addr) (cl : List (Str × Addr)) (fp : List Addr), DG (X.blk s H scope (compEnvC scope cl C X.env) fp) L.blk tg (own.map (·.2)) g) (ht : ∀ (s : Shared) (H : Hp) (C : Addr) (cl : List (Str × Addr)) (fp : List Addr), DTs (X.blk s H scope (compEnvC scope cl C X.env) fp) L.blk ifs tt)
    (he : ∀ (s : Shared) (H : Hp) (C : Addr) (cl : List (Str × Addr)) (fp : List Addr), DE (X.blk s H scope (compEnvC scope cl C X.env) fp) L.blk elt te) (hy : X.N[i]? = some y := by rfl) (hyl : X.env.scope.names.lookup y = some .local := by rfl) (hp : unpin L i = true := by rfl) (hs : ∀ x, foldedSetIterable iter X.env x = pure x := by intro _; rfl) :
    DS X L (.Assign [.Name y py] (.ListComp elt [⟨tg, iter, ifs, 0⟩] scope pos) spos) (mAsg (mLc mi g tt te (own.map (·.2))) (gSet i)) :=
  ⟨ps_to (ps_setLc hc hN hy hyl hsw hi.pi (blkOk_by ok) (fun s H C cl fp => (hg s H C cl fp).pg) (fun s H C cl fp => (ht s H C cl fp).pt) (fun s H C cl fp => (he s H C cl fp).pe) hs) fun D σ H h => by
    have z : lft X.K L rE (mLc mi g tt te (own.map (·.2))) σ H fun x H1 => gName i x σ H1 D.nx := lftS_bind h fun y H1 F1 A1 B1 d ρ1 st dj en q p => nxP.here p st (fun _ x => x) (en.put hp q dj)
    exact lft_lc σ H _ z⟩
end
/-! ### built-in calls -/
def OpN (K : Frag) (L : Lc) (r : List V → Hp → VK → Prop) (op : List D → Ro → R D) : Prop := ∀ F A B H σ Q ds vs ρ, Sta F (un A B) H → Dj A B → EnvL K L F H ρ σ A → Reps K L.cA F H ds vs B → Post K L rE F (un A B) H σ Q (op ds ρ) → r vs H Q
section
variable {X : Cx} {L : Lc} {pos p : Pos} {x : Str} {e : Expr} {es : List Expr} {ms : Ro → R (List D)} {r : List V → Hp → VK → Prop} {op : List D → Ro → R D} {id T' : String}
theorem lft_N {K : Frag} (ho : OpN K L r op) : ∀ σ H Q, lft K L rE (mN op ms) σ H Q → tCB r (lft K L rA ms) σ H Q := fun σ H Q h =>
  lft_bind h fun vs H1 F1 A1 B1 ds ρ1 st dj en q p => ho F1 A1 B1 H1 σ Q ds vs ρ1 st dj en q p
theorem de_callB (hc : CallR X (.builtin id) r) (ho : OpN X.K L r op) (hm : X.mg x = none) (hv : bootBuiltins x = some (.builtin id)) (ha : DA X L (e :: es) ms) (hg : Gl X x := by rfl) (hn : x ≠ "__name__" := by decide) (hdb : (x == ("__debug__" : Str)) = false := by decide)
    (he : starEach (e :: es) X.env = (false, eval e X.env) :: starEach es X.env := by rfl) (hpl : (backTo pos (starEach es X.env)).any (·.1) = false := by rfl) : DE X L (.Call (.Name x p) (e :: es) [] pos) (mN op ms) := ⟨pe_to (pe_callB hc hg hm hv ha.pa hn hdb he hpl) (lft_N ho)⟩
theorem de_callTy (hc : CallR X (.type T') r) (ho : OpN X.K L r op) (hm : X.mg x = none) (hv : bootBuiltins x = some (.type T')) (ha : DA X L (e :: es) ms) (hg : Gl X x := by rfl) (hn : x ≠ "__name__" := by decide) (hdb : (x == ("__debug__" : Str)) = false := by decide)
    (he : starEach (e :: es) X.env = (false, eval e X.env) :: starEach es X.env := by rfl) (hpl : (backTo pos (starEach es X.env)).any (·.1) = false := by rfl) : DE X L (.Call (.Name x p) (e :: es) [] pos) (mN op ms) := ⟨pe_to (pe_callTy hc hg hm hv ha.pa hn hdb he hpl) (lft_N ho)⟩
/-- int(n), int(flag) -/
def oInt : List D → Ro → R D
  | [.int i], ρ => .ok (.int i) ρ
  | [.bl b], ρ => .ok (.int (if b then 1 else 0)) ρ
  | _, _ => .bad
theorem on_int {K : Frag} : OpN K L (fun xs H Q => (∃ i, xs = [.int i] ∧ Q (.int i) H) ∨ ∃ k, xs = [.bl k] ∧ Q (.int (if k then 1 else 0)) H) oInt := by
  intro F A B H σ Q ds vs ρ st dj en q p
  unfold oInt at p
  split at p
  · rename_i i
    obtain ⟨v, vs', B1, B2, rfl, s, r, rs⟩ := q
    cases r; cases rs
    exact .inl ⟨i, rfl, p.leaf (w := .int i) rfl st (fun b x => .inl x) en⟩
  · rename_i b
    obtain ⟨v, vs', B1, B2, rfl, s, r, rs⟩ := q
    cases r; cases rs
    exact .inr ⟨b, rfl, p.leaf (w := .int _) rfl st (fun b x => .inl x) en⟩
  · exact p.elim
theorem de_intC (hm : X.mg "int" = none) (ha : DA X L (e :: es) ms) (hg : Gl X "int" := by rfl) (he : starEach (e :: es) X.env = (false, eval e X.env) :: starEach es X.env := by rfl) (hpl : (backTo pos (starEach es X.env)).any (·.1) = false := by rfl) :
    DE X L (.Call (.Name "int" p) (e :: es) [] pos) (mN oInt ms) := de_callTy call_int1 on_int hm (by decide +kernel) ha hg (by decide) (by decide) he hpl
/-- len -/
def lenD : D → Option Nat
  | .str x => if szOk x.length then some x.length else none
  | .tup ds => some ds.length
  | .lst _ ds => some ds.length
  | .dK _ ks _ => some ks.length
  | .dT _ ks _ => some ks.length
  | _ => none
def oLen : List D → Ro → R D
  | [d], ρ => match lenD d with
    | some n => .ok (.int n) ρ
    | none => .bad
  | _, _ => .bad

end
end T
end

section
set_option Elab.async false
set_option linter.all false
set_option maxRecDepth 100000
set_option maxHeartbeats 4000000
namespace T
open PySem PySem.Spec PyProof.Rows L2
section
variable {K : Frag} {cA : Cid → Addr} {F : FP} {H : Hp}
theorem Rep.lst {o : Bool} {ds : List D} {v : V} {A : FP} (h : Rep K cA F H (.lst o ds) v A) : ∃ a vs A', v = .ref a ∧ Rd H a (.lst vs) ∧ (∀ b, A' b → A b) ∧ Reps K cA F H ds vs A' := by
  cases o with
  | false =>
    obtain ⟨a, vs, e, t, r⟩ := h
    exact ⟨a, vs, no, e, t.1, fun _ z => z.elim, r⟩
  | true =>
    obtain ⟨a, vs, A', e, t, m, s, r⟩ := h
    exact ⟨a, vs, A', e, .inl t, fun b z => (s b z).1, r⟩
theorem Reps.atI {ds : List D} {vs : List V} {A : FP} {i : Int} {d : D} (h : Reps K cA F H ds vs A) (e : L2.atI ds i = some d) : ∃ v A1, L2.atI vs i = some v ∧ (∀ b, A1 b → A b) ∧ Rep K cA F H d v A1 := by
  unfold L2.atI at e ⊢
  rw [h.len] at e
  cases q : ixN vs.length i with
  | none => rw [q] at e; cases e
  | some j =>
    rw [q] at e
    exact h.get e
end
section
variable {X : Cx} {L : Lc} {pos p : Pos} {a b e : Expr} {ma mb m : Ro → R D} {es : List Expr} {ms : Ro → R (List D)}
/-! ### an item -/
def oIx : D → D → Ro → R D
  | .lst _ ds, .int i, ρ => (match L2.atI ds i with
    | some d => .ok d ρ
    | none => .bad)
  | .tup ds, .int i, ρ => (match L2.atI ds i with
    | some d => .ok d ρ
    | none => .bad)
  | .str z, .int i, ρ => if szOk z.length then (match L2.atI z.cps.toList i with
    | some c => .ok (.str ⟨#[c]⟩) ρ
    | none => .bad) else .bad
  | _, _, _ => .bad
theorem de_ix (ha : DE X L a ma) (hb : DE X L b mb) (hs : PlainIx b := by exact fun _ _ => rfl) : DE X L (.Subscript a b pos) (m2 oIx ma mb) := ⟨pe_to (pe_ix ix_seq ha.pe hb.pe hs) (lft_2 fun F A B1 B2 H σ Q d1 d2 v1 v2 ρ st dj dj' en q1 q2 p => by
  cases d2 <;> first | (cases d1 <;> exact p.elim) | skip
  rename_i i
  cases d1 <;> first | exact p.elim | skip
  · rename_i z
    have p : Post X.K L rE F (un (un A B2) B1) H σ Q (if szOk z.length then (match L2.atI z.cps.toList i with
      | some c => .ok (.str ⟨#[c]⟩) ρ
      | none => .bad) else .bad) := p
    by_cases hz : szOk z.length = true
    · rw [if_pos hz] at p
      cases el : L2.atI z.cps.toList i with
      | none => rw [el] at p; exact p.elim
      | some c =>
        rw [el] at p
        exact .inr (.inr ⟨z, i, c, q1, q2, of_decide_eq_true hz, el, p.leaf (w := .str _) rfl st (fun b x => .inl (.inl x)) en⟩)
    · rw [if_neg hz] at p; exact p.elim
  · rename_i ds
    obtain ⟨a, vs, rfl, t, r⟩ := q1
    have p : Post X.K L rE F (un (un A B2) B1) H σ Q (match L2.atI ds i with
      | some d => .ok d ρ
      | none => .bad) := p
    cases el : L2.atI ds i with
    | none => rw [el] at p; exact p.elim
    | some d =>
      rw [el] at p
      obtain ⟨v, A1, e1, z, q⟩ := r.atI el
      exact .inr (.inl ⟨a, vs, i, v, rfl, q2, t.sq, e1, p.ret (A1 := A) (B := A1) st (fun b x => x.elim (fun x => .inl (.inl x)) fun x => .inr (z b x)) (fun b x y => dj' b (.inl x) (z b y)) en q⟩)
  · rename_i o ds
    obtain ⟨a, vs, A', rfl, t, s, r⟩ := q1.lst
    have p : Post X.K L rE F (un (un A B2) B1) H σ Q (match L2.atI ds i with
      | some d => .ok d ρ
      | none => .bad) := p
    cases el : L2.atI ds i with
    | none => rw [el] at p; exact p.elim
    | some d =>
      rw [el] at p
      obtain ⟨v, A1, e1, z, q⟩ := r.atI el
      exact .inl ⟨a, vs, i, v, rfl, q2, .inl t, e1, p.ret (A1 := A) (B := A1) st (fun b x => x.elim (fun x => .inl (.inl x)) fun x => .inr (s b (z b x))) (fun b x y => dj' b (.inl x) (s b (z b y))) en q⟩)⟩
/-! ### a slice -/
def rOp (f : Option Int) : Rel (Option Int) (Option Int) := rO
structure DO (X : Cx) (L : Lc) (e : Option Expr) (m : Ro → R (Option Int)) : Prop where
  po : PO X e (lft X.K L rO m)
theorem po_to {X : Cx} {e : Option Expr} {t t' : TO} (h : PO X e t) (i : ∀ σ H Q, t' σ H Q → t σ H Q) : PO X e t' := ⟨fun pins s σ H Q I q => h.run pins s σ H Q I (i σ H Q q)⟩
def mNone : Ro → R (Option Int) := fun ρ => .ok none ρ
def oSome : D → Ro → R (Option Int)
  | .int i, ρ => .ok (some i) ρ
  | _, _ => .bad
theorem do_none : DO X L none mNone := ⟨po_to po_none fun σ H Q ⟨ρ, F, A, st, en, p⟩ => p.val (A1 := A) st (fun _ x => x) en rfl⟩
theorem do_some (h : DE X L e m) : DO X L (some e) (fun ρ => (m ρ).bind oSome) := ⟨po_to (po_some h.pe) fun σ H Q h => by
  refine lft_bind h fun v H1 F1 A1 B1 d ρ1 st dj en q p => ?_
  cases d <;> first | exact p.elim | skip
  rename_i i
  exact ⟨i, q, p.val (A1 := A1) st (fun b x => .inl x) en rfl⟩⟩
def cutD (ds : List D) (lo hi : Option Int) : List D := (ds.drop (HT.sIx ds.length 0 lo)).take (HT.sIx ds.length ds.length hi - HT.sIx ds.length 0 lo)
def oSl (d : D) (lo hi : Option Int) (ρ : Ro) : R D := match d with
  | .lst _ ds => .ok (.lst true (cutD ds lo hi)) ρ
  | .tup ds => .ok (.tup (cutD ds lo hi)) ρ
  | _ => .bad
def mSl (m : Ro → R D) (l h : Ro → R (Option Int)) : Ro → R D := fun ρ => (m ρ).bind fun d ρ1 => (l ρ1).bind fun lo ρ2 => (h ρ2).bind fun hi ρ3 => oSl d lo hi ρ3
theorem Reps.drop {K : Frag} {cA : Cid → Addr} {F : FP} {H : Hp} : ∀ {ds : List D} {vs : List V} {A : FP} (n : Nat), Reps K cA F H ds vs A → Reps K cA F H (ds.drop n) (vs.drop n) A
  | ds, vs, A, 0, r => r
  | [], _, A, n + 1, r => by cases r; rfl
  | d :: ds, _, A, n + 1, r => by
    obtain ⟨v, vs', A1, A2, rfl, s, q, rs⟩ := r
    exact Reps.move (fun _ x => x) (fun _ _ _ e => e) s.r (Reps.drop n rs)
theorem Reps.take {K : Frag} {cA : Cid → Addr} {F : FP} {H : Hp} : ∀ {ds : List D} {vs : List V} {A : FP} (n : Nat), Reps K cA F H ds vs A → Reps K cA F H (ds.take n) (vs.take n) A
  | ds, vs, A, 0, r => rfl
  | [], _, A, n + 1, r => by cases r; rfl
  | d :: ds, _, A, n + 1, r => by
    obtain ⟨v, vs', A1, A2, rfl, s, q, rs⟩ := r
    exact ⟨v, _, A1, A2, rfl, s, q, Reps.take n rs⟩
theorem Reps.cut {K : Frag} {cA : Cid → Addr} {F : FP} {H : Hp} {ds : List D} {vs : List V} {A : FP} {lo hi : Option Int} (h : Reps K cA F H ds vs A) : Reps K cA F H (cutD ds lo hi) (cutV vs lo hi) A := by
  unfold cutD cutV
  rw [h.len]
  exact Reps.take _ (Reps.drop _ h)
theorem SlR.or2 {r r' : V → Option Int → Option Int → Hp → VK → Prop} (h : SlR X r) (h' : SlR X r') : SlR X (fun x lo hi H Q => r x lo hi H Q ∨ r' x lo hi H Q) := SlR.or h h'
theorem cut_all {vs : List V} {lo hi : Option Int} (h : HT.sIx vs.length 0 lo = 0 ∧ HT.sIx vs.length vs.length hi = vs.length) : cutV vs lo hi = vs := by
  unfold cutV
  rw [h.1, h.2]
  simp
theorem de_sl {lo hi : Option Expr} {l h : Ro → R (Option Int)} {p2 : Pos} (he : DE X L e m) (hl : DO X L lo l) (hh : DO X L hi h) : DE X L (.Subscript e (.Slice lo hi none p2) pos) (mSl m l h) := ⟨pe_to (pe_slice (SlR.or2 sl_list sl_tupA) he.pe hl.po hh.po) fun σ H Q h0 => by
  refine lft_bind h0 fun v H1 F1 A1 B1 d ρ1 st dj en q p => ?_
  refine lft_rest st dj en p fun x H2 F2 A2 B2 o ρ2 st2 dj2 dj2' en2 q2 fr2 kb2 p2 => ?_
  cases q2
  have p2 := Post.step ((Step.refl st2).sub (A'' := un A2 B1) fun b x => x.imp .inl id) p2
  refine lft_rest (st2.sub fun b x => x.imp .inl id) (fun b x y => dj2' b (.inl x) y) en2 p2 fun x H3 F3 A3 B3 o3 ρ3 st3 dj3 dj3' en3 q3 fr3 kb3 p3 => ?_
  cases q3
  have q' := (q.move fr2 kb2 fun _ x => x).move fr3 kb3 fun _ x => x
  have st4 : Sta F3 (un A3 B1) H3 := st3.sub fun b x => x.imp .inl id
  have p4 := Post.step ((Step.refl st3).sub (A'' := un A3 B1) fun b x => x.imp .inl id) p3
  have dj4 : Dj A3 B1 := fun b x y => dj3' b (.inl x) y
  cases d <;> first | exact p4.elim | skip
  · rename_i ds
    obtain ⟨a, vs, rfl, t, r⟩ := q'
    refine .inr ⟨a, vs, rfl, t.sq, fun hw => ?_, fun _ l np => end_tup st4 dj4 en3 r.cut np p4⟩
    refine p4.ret (A1 := A3) (B := B1) st4 (fun _ x => x) dj4 en3 ⟨a, vs, rfl, t, Eq.subst (motive := fun ws => Reps X.K L.cA F3 H3 _ ws B1) (cut_all hw) r.cut⟩
  · rename_i ow ds
    obtain ⟨a, vs, A', rfl, t, s, r⟩ := q'.lst
    exact .inl ⟨a, vs, rfl, .inl t, fun l np => end_lst st4 dj4 en3 (r.cut.move (fun _ x => x) (fun _ _ _ e => e) s) np p4⟩⟩
/-! ### len, list, tuple, all, any, isinstance -/
def oLenS : List D → Ro → R D
  | [.str x], ρ => if szOk x.length then .ok (.int x.length) ρ else .bad
  | [.tup ds], ρ => .ok (.int ds.length) ρ
  | [.lst _ ds], ρ => .ok (.int ds.length) ρ
  | _, _ => .bad
theorem on_len {K : Frag} : OpN K L (fun xs H Q => (∃ p ys, xs = [.ref p] ∧ (SqL K H p ys ∨ SqT K H p ys) ∧ Q (.int ys.length) H) ∨ ∃ z, xs = [.str z] ∧ z.length ≤ sizeLine ∧ Q (.int z.length) H) oLenS := by
  intro F A B H σ Q ds vs ρ st dj en q p
  unfold oLenS at p
  split at p
  · rename_i x
    obtain ⟨v, vs', B1, B2, rfl, s, r, rs⟩ := q
    cases r; cases rs
    split at p
    · rename_i hz
      exact .inr ⟨x, rfl, of_decide_eq_true hz, p.leaf (w := .int _) rfl st (fun b x => .inl x) en⟩
    · exact p.elim
  · rename_i ds
    obtain ⟨v, vs', B1, B2, rfl, s, ⟨a, ws, rfl, t, r⟩, rs⟩ := q
    cases rs
    rw [r.len] at p
    exact .inl ⟨a, ws, rfl, .inr t.sq, p.leaf (w := .int _) rfl st (fun b x => .inl x) en⟩
  · rename_i o ds
    obtain ⟨v, vs', B1, B2, rfl, s, r0, rs⟩ := q
    obtain ⟨a, ws, A', rfl, t, _, r⟩ := r0.lst
    cases rs
    rw [r.len] at p
    exact .inl ⟨a, ws, rfl, .inl (.inl t), p.leaf (w := .int _) rfl st (fun b x => .inl x) en⟩
  · exact p.elim
theorem de_len (hm : X.mg "len" = none) (ha : DA X L (e :: es) ms) (hg : Gl X "len" := by rfl) (he : starEach (e :: es) X.env = (false, eval e X.env) :: starEach es X.env := by rfl) (hpl : (backTo pos (starEach es X.env)).any (·.1) = false := by rfl) :
    DE X L (.Call (.Name "len" p) (e :: es) [] pos) (mN oLenS ms) := de_callB (call_len_seq.or call_len_str) on_len hm (by decide +kernel) ha hg (by decide) (by decide) he hpl
/-- list(x): a new one; the items are shared -/
def oList : List D → Ro → R D
  | [.tup ds], ρ => .ok (.lst true (fzs ds)) ρ
  | [.lst _ ds], ρ => .ok (.lst true (fzs ds)) ρ
  | _, _ => .bad
def oTuple : List D → Ro → R D
  | [.tup ds], ρ => .ok (.tup ds) ρ
  | [.lst _ ds], ρ => .ok (.tup (fzs ds)) ρ
  | _, _ => .bad
/-- a new list of shared items -/
theorem end_lstF {K : Frag} {F A B : FP} {H : Hp} {σ : L2.St} {Q : VK} {ds : List D} {vs : List V} {ρ : Ro} {p : Addr} (st : Sta F (un A B) H) (dj : Dj A B) (en : EnvL K L F H ρ σ A) (q : Reps K L.cA F H ds vs B) (np : H p = none)
    (po : Post K L rE F (un A B) H σ Q (.ok (.lst true (fzs ds)) ρ)) : Q (.ref p) (upd H p (.lst vs)) := by
  have s1 := frz_step st dj
  have q1 := q.fz (F' := un F B) (fun _ x => .inr x) (fun _ x => .inl x)
  have en1 := en.move (F' := un F B) (A' := A) (fun _ x => .inl x) (fun _ _ _ e => e) fun _ x => x
  have st1 : Sta (un F B) (un A no) H := s1.sta.sub fun b x => x.elim id False.elim
  exact end_lst (A := A) (B := no) st1 (fun _ _ z => z.elim) en1 q1 np (Post.step (s1.sub fun b x => x.elim id False.elim) po)
theorem end_tupF {K : Frag} {F A B : FP} {H : Hp} {σ : L2.St} {Q : VK} {ds : List D} {vs : List V} {ρ : Ro} {p : Addr} (st : Sta F (un A B) H) (dj : Dj A B) (en : EnvL K L F H ρ σ A) (q : Reps K L.cA F H ds vs B) (np : H p = none)
    (po : Post K L rE F (un A B) H σ Q (.ok (.tup (fzs ds)) ρ)) : Q (.ref p) (upd H p (.tup vs)) := by
  have s1 := frz_step st dj
  have q1 := q.fz (F' := un F B) (fun _ x => .inr x) (fun _ x => .inl x)
  have en1 := en.move (F' := un F B) (A' := A) (fun _ x => .inl x) (fun _ _ _ e => e) fun _ x => x
  have st1 : Sta (un F B) (un A no) H := s1.sta.sub fun b x => x.elim id False.elim
  exact end_tup (A := A) (B := no) st1 (fun _ _ z => z.elim) en1 q1 np (Post.step (s1.sub fun b x => x.elim id False.elim) po)
theorem on_list {K : Frag} : OpN K L (fun xs H Q => ∃ p ys, xs = [.ref p] ∧ (SqL K H p ys ∨ SqT K H p ys) ∧ ∀ l, H l = none → Q (.ref l) (upd H l (.lst ys))) oList := by
  intro F A B H σ Q ds vs ρ st dj en q p
  unfold oList at p
  split at p
  · rename_i ds
    obtain ⟨v, vs', B1, B2, rfl, s, ⟨a, ws, rfl, t, r⟩, rs⟩ := q
    cases rs
    exact ⟨a, ws, rfl, .inr t.sq, fun l np => end_lstF st dj en (r.move (fun _ x => x) (fun _ _ _ e => e) s.l) np p⟩
  · rename_i o ds
    obtain ⟨v, vs', B1, B2, rfl, s, r0, rs⟩ := q
    obtain ⟨a, ws, A', rfl, t, z, r⟩ := r0.lst
    cases rs
    exact ⟨a, ws, rfl, .inl (.inl t), fun l np => end_lstF st dj en (r.move (fun _ x => x) (fun _ _ _ e => e) fun b x => s.l b (z b x)) np p⟩
  · exact p.elim
theorem on_tuple {K : Frag} : OpN K L (fun xs H Q => ∃ p ys, xs = [.ref p] ∧ ((SqL K H p ys ∧ ∀ l, H l = none → Q (.ref l) (upd H l (.tup ys))) ∨ (SqT K H p ys ∧ Q (.ref p) H))) oTuple := by
  intro F A B H σ Q ds vs ρ st dj en q p
  unfold oTuple at p
  split at p
  · rename_i ds
    obtain ⟨v, vs', B1, B2, rfl, s, r0, rs⟩ := q
    obtain ⟨a, ws, rfl, t, r⟩ := id r0
    cases rs
    exact ⟨a, ws, rfl, .inr ⟨t.sq, p.ret (A1 := A) (B := B1) st (fun b x => x.imp id (s.l b)) (fun b x y => dj b x (s.l b y)) en r0⟩⟩
  · rename_i o ds
    obtain ⟨v, vs', B1, B2, rfl, s, r0, rs⟩ := q
    obtain ⟨a, ws, A', rfl, t, z, r⟩ := r0.lst
    cases rs
    exact ⟨a, ws, rfl, .inl ⟨.inl t, fun l np => end_tupF st dj en (r.move (fun _ x => x) (fun _ _ _ e => e) fun b x => s.l b (z b x)) np p⟩⟩
  · exact p.elim
theorem de_list (hm : X.mg "list" = none) (ha : DA X L (e :: es) ms) (hg : Gl X "list" := by rfl) (he : starEach (e :: es) X.env = (false, eval e X.env) :: starEach es X.env := by rfl) (hpl : (backTo pos (starEach es X.env)).any (·.1) = false := by rfl) :
    DE X L (.Call (.Name "list" p) (e :: es) [] pos) (mN oList ms) := de_callTy call_list_of on_list hm (by decide +kernel) ha hg (by decide) (by decide) he hpl
theorem de_tuple (hm : X.mg "tuple" = none) (ha : DA X L (e :: es) ms) (hg : Gl X "tuple" := by rfl) (he : starEach (e :: es) X.env = (false, eval e X.env) :: starEach es X.env := by rfl) (hpl : (backTo pos (starEach es X.env)).any (·.1) = false := by rfl) :
    DE X L (.Call (.Name "tuple" p) (e :: es) [] pos) (mN oTuple ms) := de_callTy call_tuple_of on_tuple hm (by decide +kernel) ha hg (by decide) (by decide) he hpl
/-- all, any of a list of truths -/
def bls : List D → Option (List Bool)
  | [] => some []
  | .bl b :: ds => (bls ds).map (b :: ·)
  | _ :: _ => none
theorem Reps.bls {K : Frag} {cA : Cid → Addr} {F : FP} {H : Hp} : ∀ {ds : List D} {vs : List V} {A : FP} {bs : List Bool}, T.bls ds = some bs → Reps K cA F H ds vs A → vs = bs.map V.bl
  | [], _, _, _, e, r => by cases e; exact r
  | d :: ds, _, _, bs, e, r => by
    obtain ⟨v, vs', A1, A2, rfl, s, q, rs⟩ := r
    cases d <;> first | cases e | skip
    obtain ⟨bs', e1, rfl⟩ := Option.map_eq_some_iff.mp e
    cases q
    rw [Reps.bls e1 rs]
    rfl
def oAll : List D → Ro → R D
  | [.lst _ ds], ρ => (match bls ds with
    | some bs => .ok (.bl (bs.all id)) ρ
    | none => .bad)
  | _, _ => .bad
def oAny : List D → Ro → R D
  | [.lst _ ds], ρ => (match bls ds with
    | some bs => .ok (.bl (bs.any id)) ρ
    | none => .bad)
  | _, _ => .bad
theorem on_all {K : Frag} : OpN K L (rAll K) oAll := by
  intro F A B H σ Q ds vs ρ st dj en q p
  unfold oAll at p
  split at p
  · rename_i o ds
    split at p
    · rename_i bs e
      obtain ⟨v, vs', B1, B2, rfl, s, r0, rs⟩ := q
      obtain ⟨a, ws, A', rfl, t, z, r⟩ := r0.lst
      cases rs
      have ew := r.bls e
      subst ew
      exact ⟨a, bs, rfl, .inl t, p.leaf (w := .bl _) rfl st (fun b x => .inl x) en⟩
    · exact p.elim
  · exact p.elim
theorem de_all (hc : X.calm = true) (hm : X.mg "all" = none) (ha : DA X L (e :: es) ms) (hg : Gl X "all" := by rfl) (he : starEach (e :: es) X.env = (false, eval e X.env) :: starEach es X.env := by rfl) (hpl : (backTo pos (starEach es X.env)).any (·.1) = false := by rfl) :
    DE X L (.Call (.Name "all" p) (e :: es) [] pos) (mN oAll ms) := de_callB (cr_all hc) on_all hm (by decide +kernel) ha hg (by decide) (by decide) he hpl
end
end T
end

section
set_option Elab.async false
set_option linter.all false
set_option maxRecDepth 100000
set_option maxHeartbeats 4000000
namespace T
open PySem PySem.Spec PyProof.Rows L2
/-! ### names of built-in types, of own classes, constants of the module -/
section
variable {X : Cx} {L : Lc} {pos p : Pos} {x : Str} {e : Expr} {es : List Expr} {ms : Ro → R (List D)}
theorem de_ty {n : String} (hm : X.mg x = none) (hv : bootBuiltins x = some (.type n)) (hg : Gl X x := by rfl) (hn : x ≠ "__name__" := by decide) (hd : (x == ("__debug__" : Str)) = false := by decide) : DE X L (.Name x pos) (mC (.ty n)) :=
  ⟨pe_to (pe_bltn (v := .ty n) hg hm hv rfl hn hd) fun σ H Q h => lft_c (d := .ty n) (v := .ty n) (fun _ _ _ => rfl) σ H Q h⟩
theorem de_cls {c : Cid} (hm : X.mg x = some (.ref (L.cA c))) (hg : Gl X x := by rfl) (hd : (x == ("__debug__" : Str)) = false := by decide) : DE X L (.Name x pos) (mC (.cls c)) :=
  ⟨pe_to (pe_glob (v := .ref (L.cA c)) hg hm rfl hd) fun σ H Q h => lft_c (d := .cls c) (v := .ref (L.cA c)) (fun _ _ _ => rfl) σ H Q h⟩
/-- a constant of the module -/
def KRep (K : Frag) (cA : Cid → Addr) (d : D) (u : Value) : Prop := ∃ v, RelV v u ∧ ∀ F H A, Rep K cA F H d v A
theorem de_con {d : D} {u : Value} (hm : X.mg x = some u) (k : KRep X.K L.cA d u) (hg : Gl X x := by rfl) (hd : (x == ("__debug__" : Str)) = false := by decide) : DE X L (.Name x pos) (mC d) :=
  let ⟨v, r, k⟩ := k
  ⟨pe_to (pe_glob (v := v) hg hm r hd) fun σ H Q h => lft_c (d := d) (v := v) k σ H Q h⟩
end
theorem krep_int {K : Frag} {cA : Cid → Addr} {i : Int} {t : Tok} : KRep K cA (.int i) (.int i t) := ⟨.int i, ⟨t, rfl⟩, fun _ _ _ => rfl⟩
theorem krep_str {K : Frag} {cA : Cid → Addr} {i : Str} {t : Tok} : KRep K cA (.str i) (.str i t) := ⟨.str i, ⟨t, rfl⟩, fun _ _ _ => rfl⟩
/-! ### isinstance -/
inductive TyT where
  | b (n : String) | o (c : Cid)
def tyT : D → Option TyT
  | .non => some (.b "NoneType")
  | .bl _ => some (.b "bool")
  | .int _ => some (.b "int")
  | .str _ => some (.b "str")
  | .tup _ => some (.b "tuple")
  | .lst _ _ => some (.b "list")
  | .dK _ _ _ => some (.b "dict")
  | .dT _ _ _ => some (.b "dict")
  | .ins _ c _ _ => some (.o c)
  | _ => none
def TyT.val (cA : Cid → Addr) : TyT → Value
  | .b n => .type n
  | .o c => .ref (cA c)
/-- what of the own classes isinstance leans on -/
structure Kit (K : Frag) (cA : Cid → Addr) (cs : List Cid) : Prop where
  cls : ∀ c, cs.contains c = true → Cls K (cA c) ∧ PySem.W.findIn K (.ref (cA c)) "__class__" = some (some (.builtin "object.__class__")) ∧ PySem.W.mroIn K (cA c) (.type "object") = some true
  hn : PySem.W.specialIn K (.builtin "object.__class__") "__get__" = some (some (.builtin "getset_descriptor.__get__"))
  tk : PySem.W.takesIn K (.builtin "object.__class__") = some true
  bo : ∀ n, (["NoneType", "bool", "int", "str", "tuple", "list", "dict"] : List String).contains n = true → ∀ c, cs.contains c = true → PySem.W.kitOne K (.type n) (.ref (cA c)) = some false
  ob : ∀ c, cs.contains c = true → ∀ n, (["int", "bool", "str", "list", "tuple", "dict"] : List String).contains n = true → PySem.W.kitOne K (.ref (cA c)) (.type n) = some false
  oo : ∀ c, cs.contains c = true → ∀ c', cs.contains c' = true → PySem.W.kitOne K (.ref (cA c)) (.ref (cA c')) = some (c == c')
def isOne (cs : List Cid) : TyT → D → Option Bool
  | .b a, .ty n => kitB a n
  | .b a, .cls c => if (["NoneType", "bool", "int", "str", "tuple", "list", "dict"] : List String).contains a && cs.contains c then some false else none
  | .o c, .ty n => if cs.contains c && (["int", "bool", "str", "list", "tuple", "dict"] : List String).contains n then some false else none
  | .o c, .cls c' => if cs.contains c && cs.contains c' then some (c == c') else none
  | _, _ => none
def isAny (cs : List Cid) (t : TyT) : List D → Option Bool
  | [] => some false
  | d :: ds => match isOne cs t d with
    | some true => some true
    | some false => isAny cs t ds
    | none => none
section
variable {K : Frag} {cA : Cid → Addr} {F : FP} {H : Hp} {cs : List Cid}
def okT (cs : List Cid) : TyT → Bool
  | .b _ => true
  | .o c => cs.contains c
theorem Rep.tyx (kit : Kit K cA cs) {d : D} {v : V} {A : FP} {t : TyT} (e : tyT d = some t) (ok : okT cs t = true) (h : Rep K cA F H d v A) : TyX K H v (t.val cA) := by
  cases d with
  | non => cases e; cases h; exact .base .non
  | bl b => cases e; cases h; exact .base (.bl b)
  | int i => cases e; cases h; exact .base (.int i)
  | str x => cases e; cases h; exact .base (.str x)
  | ty _ => cases e
  | cls _ => cases e
  | tup ds =>
    cases e
    obtain ⟨a, vs, rfl, t, r⟩ := h
    rcases t with ⟨t, _⟩ | ⟨o, its, n, h1, h2, _⟩
    · exact .base (.tup t)
    · exact .kTuple h1 h2
  | lst o ds =>
    cases e
    obtain ⟨a, vs, A', rfl, t, _⟩ := h.lst
    rcases t with t | ⟨ob, t⟩
    · exact .base (.lst t)
    · exact .base (.frz t)
  | dK o ks ds =>
    cases e
    cases o with
    | false => obtain ⟨a, vs, rfl, t, _⟩ := h; exact .base (.dK t)
    | true => obtain ⟨a, vs, A', rfl, t, _⟩ := h; exact .base (.dK t)
  | dT o ks ds =>
    cases e
    cases o with
    | false => obtain ⟨a, vs, rfl, t, _⟩ := h; exact .base (.dT t)
    | true => obtain ⟨a, vs, A', rfl, t, _⟩ := h; exact .base (.dT t)
  | ins o c fs ds =>
    cases e
    obtain ⟨a, dx, vs, A', rfl, t, _⟩ := h.ins
    obtain ⟨h1, h2, h3⟩ := kit.cls c ok
    exact .base (.ins t h1 h2 kit.hn kit.tk h3)
def clsVal (cA : Cid → Addr) : D → Value
  | .ty n => .type n
  | .cls c => .ref (cA c)
  | _ => .none
theorem ite_some {α : Type} {c : Bool} {x b : α} (h : (if c = true then some x else none) = some b) : c = true ∧ x = b := by
  cases c with
  | true => exact ⟨rfl, Option.some.inj h⟩
  | false => cases h
theorem isOne_ok (kit : Kit K cA cs) {t : TyT} {d : D} {b : Bool} (h : isOne cs t d = some b) : PySem.W.kitOne K (t.val cA) (clsVal cA d) = some b := by
  cases t with
  | b a =>
    cases d <;> first | cases h | skip
    · exact kit_ty h
    · obtain ⟨hc, rfl⟩ := ite_some h
      have hc := Bool.and_eq_true_iff.mp hc
      exact kit.bo a hc.1 _ hc.2
  | o c =>
    cases d <;> first | cases h | skip
    · obtain ⟨hc, rfl⟩ := ite_some h
      have hc := Bool.and_eq_true_iff.mp hc
      exact kit.ob c hc.1 _ hc.2
    · obtain ⟨hc, rfl⟩ := ite_some h
      have hc := Bool.and_eq_true_iff.mp hc
      exact kit.oo c hc.1 _ hc.2
theorem isOne_cls {t : TyT} {d : D} {b : Bool} (h : isOne cs t d = some b) {v : V} {A : FP} (r : Rep K cA F H d v A) : ClsV v (clsVal cA d) := by
  cases d <;> first | (cases t <;> cases h) | skip
  · cases r; exact .ty _
  · cases r; exact .own _
theorem isAny_ok (kit : Kit K cA cs) {t : TyT} : ∀ {ds : List D} {vs : List V} {A : FP} {b : Bool}, isAny cs t ds = some b → (∀ d ∈ ds, ∃ b, isOne cs t d = some b) → Reps K cA F H ds vs A → Paired ClsV vs (ds.map (clsVal cA)) ∧ PySem.W.kitAny K (t.val cA) (ds.map (clsVal cA)) = some b
  | [], _, _, _, e, _, r => by cases e; cases r; exact ⟨.nil, rfl⟩
  | d :: ds, _, _, b, e, all, r => by
    obtain ⟨v, vs', A1, A2, rfl, s, q, rs⟩ := r
    obtain ⟨b1, h1⟩ := all d (List.mem_cons_self ..)
    have all' : ∀ d ∈ ds, ∃ b, isOne cs t d = some b := fun d hd => all d (List.mem_cons_of_mem _ hd)
    have c1 := isOne_cls h1 q
    have k1 := isOne_ok kit h1
    unfold isAny at e
    rw [h1] at e
    cases b1 with
    | true =>
      cases e
      obtain ⟨b2, h2⟩ : ∃ b2, isAny cs t ds = some b2 := by
        clear rs q s c1 k1 h1 all
        induction ds with
        | nil => exact ⟨false, rfl⟩
        | cons d' ds ih =>
          obtain ⟨b', h'⟩ := all' d' (List.mem_cons_self ..)
          unfold isAny
          rw [h']
          cases b' with
          | true => exact ⟨true, rfl⟩
          | false => exact ih fun d hd => all' d (List.mem_cons_of_mem _ hd)
      obtain ⟨p2, _⟩ := isAny_ok kit h2 all' rs
      exact ⟨.cons c1 p2, kitAny_cons k1 (fun z => nomatch z) fun _ => rfl⟩
    | false =>
      obtain ⟨p2, k2⟩ := isAny_ok kit e all' rs
      exact ⟨.cons c1 p2, kitAny_cons k1 (fun _ => k2) fun z => nomatch z⟩
end
def allOne (cs : List Cid) (t : TyT) (ds : List D) : Bool := ds.all fun d => (isOne cs t d).isSome
def oIsi (cs : List Cid) : List D → Ro → R D
  | [d, .tup ds], ρ => (match tyT d with
    | some t => if okT cs t && allOne cs t ds then (match isAny cs t ds with
      | some b => .ok (.bl b) ρ
      | none => .bad) else .bad
    | none => .bad)
  | [d, k], ρ => (match tyT d with
    | some t => if okT cs t then (match isOne cs t k with
      | some b => .ok (.bl b) ρ
      | none => .bad) else .bad
    | none => .bad)
  | _, _ => .bad
section
variable {X : Cx} {L : Lc} {pos p : Pos} {x : Str} {e : Expr} {es : List Expr} {ms : Ro → R (List D)} {cs : List Cid}
theorem on_isi {K : Frag} (kit : Kit K L.cA cs) : OpN K L (fun xs H Q => rIsi K xs H Q ∨ rIsiT K xs H Q ∨ rIsiK K xs H Q) (oIsi cs) := by
  intro F A B H σ Q ds vs ρ st dj en q p
  match ds, q, p with
  | [], _, p => exact p.elim
  | [_], _, p => exact p.elim
  | _ :: k :: _ :: _, _, p => cases k <;> exact p.elim
  | [d, k], q, p =>
    obtain ⟨v, vs', B1, B2, rfl, s, q1, rs⟩ := q
    obtain ⟨w, vs2, B3, B4, rfl, s2, q2, rs2⟩ := rs
    cases rs2
    by_cases hk : ∃ es, k = .tup es
    · obtain ⟨es, rfl⟩ := hk
      have p : Post K L rE F (un A B) H σ Q (match tyT d with
        | some t => if okT cs t && allOne cs t es then (match isAny cs t es with
          | some b => .ok (.bl b) ρ
          | none => .bad) else .bad
        | none => .bad) := p
      cases et : tyT d with
      | none => rw [et] at p; exact p.elim
      | some t =>
        rw [et] at p
        simp only at p
        by_cases hc : (okT cs t && allOne cs t es) = true
        · rw [if_pos hc] at p
          have hc := Bool.and_eq_true_iff.mp hc
          cases ea : isAny cs t es with
          | none => rw [ea] at p; exact p.elim
          | some b =>
            rw [ea] at p
            obtain ⟨a, ws, rfl, t2, r⟩ := q2
            have all : ∀ d ∈ es, ∃ b, isOne cs t d = some b := fun d hd => by
              have := List.all_eq_true.mp hc.2 d hd
              exact Option.isSome_iff_exists.mp this
            obtain ⟨z1, z2⟩ := isAny_ok kit ea all r
            rcases t2 with ⟨t2, _⟩ | t2
            · exact .inr (.inl ⟨v, a, ws, _, _, b, rfl, t2, z1, Rep.tyx kit et hc.1 q1, z2, p.leaf (w := .bl b) rfl st (fun b x => .inl x) en⟩)
            · obtain ⟨o, its, n, lk, hcl, hd, hz, rv⟩ := t2
              have e := ClsV.all z1 rv
              obtain ⟨oc, od, dt, sl⟩ := o
              simp only at hcl hd
              subst hcl hd
              exact .inr (.inr ⟨v, a, od, es.map (clsVal L.cA), n, sl, _, b, rfl, by rw [lk, ← e], Rep.tyx kit et hc.1 q1, z2, p.leaf (w := .bl b) rfl st (fun b x => .inl x) en⟩)
        · rw [if_neg hc] at p; exact p.elim
    · have p : Post K L rE F (un A B) H σ Q (match tyT d with
        | some t => if okT cs t then (match isOne cs t k with
          | some b => .ok (.bl b) ρ
          | none => .bad) else .bad
        | none => .bad) := by
        cases k <;> first | exact p | exact absurd ⟨_, rfl⟩ hk
      cases et : tyT d with
      | none => rw [et] at p; exact p.elim
      | some t =>
        rw [et] at p
        simp only at p
        by_cases hc : okT cs t = true
        · rw [if_pos hc] at p
          cases ea : isOne cs t k with
          | none => rw [ea] at p; exact p.elim
          | some b =>
            rw [ea] at p
            exact .inl ⟨v, w, _, _, b, rfl, isOne_cls ea q2, Rep.tyx kit et hc q1, isOne_ok kit ea, p.leaf (w := .bl b) rfl st (fun b x => .inl x) en⟩
        · rw [if_neg hc] at p; exact p.elim
theorem de_isi (kit : Kit X.K L.cA cs) (hm : X.mg "isinstance" = none) (ha : DA X L (e :: es) ms) (hg : Gl X "isinstance" := by rfl) (he : starEach (e :: es) X.env = (false, eval e X.env) :: starEach es X.env := by rfl) (hpl : (backTo pos (starEach es X.env)).any (·.1) = false := by rfl) :
    DE X L (.Call (.Name "isinstance" p) (e :: es) [] pos) (mN (oIsi cs) ms) := de_callB (CallR.or call_isi (CallR.or call_isiT call_isiK)) (on_isi kit) hm (by decide +kernel) ha hg (by decide) (by decide) he hpl
end

/-! ### + of ints, texts, lists, tuples -/
def oAddA : D → D → Ro → R D
  | .int i, .int j, ρ => .ok (.int (i + j)) ρ
  | .str x, .str y, ρ => if szOk (x.length + y.length) then .ok (.str (x ++ y)) ρ else .bad
  | .lst _ xs, .lst _ ys, ρ => if szOk (xs.length + ys.length) then .ok (.lst true (fzs xs ++ fzs ys)) ρ else .bad
  | .tup xs, .tup ys, ρ => if szOk (xs.length + ys.length) then .ok (.tup (xs ++ ys)) ρ else .bad
  | _, _, _ => .bad
def rCatL (K : Frag) : R2 := fun x y H Q => ∃ l b xs zs, x = .ref l ∧ y = .ref b ∧ Rd H l (.lst xs) ∧ Rd H b (.lst zs) ∧ xs.length + zs.length ≤ sizeLine ∧ ∀ p, H p = none → Q (.ref p) (upd H p (.lst (xs ++ zs)))
section
variable {X : Cx} {L : Lc} {pos p : Pos} {a b : Expr} {ma mb : Ro → R D}
theorem Inv.lstR {pins : List (Addr × Obj)} {σ : L2.St} {H : Hp} {s : Shared} {l : Addr} {xs : List V} (I : Inv X pins σ H s) (h : Rd H l (.lst xs)) : xs.length ≤ sizeLine ∧ ∃ (its : List Value) (n : Nat), Vals xs its ∧ xs.length = its.length ∧ s.heap.get? l = some { cls := .type "list", data := .seq its.toArray n } := by
  obtain ⟨z, its, n, r, e⟩ := h.ok I.hok
  exact ⟨z, its, n, r, r.length, e⟩
theorem op_catL : OpR X (binaryOp .Add) (rCatL X.K) := by
  intro pins s σ H x y v u Q I rx ry h
  obtain ⟨l, b, xs, zs, rfl, rfl, hH, hB, hz, q⟩ := h
  cases rx
  cases ry
  obtain ⟨z, its, n, r, hl, e⟩ := Inv.lstR I hH
  obtain ⟨z2, its2, n2, r2, hl2, e2⟩ := Inv.lstR I hB
  refine PySem.P.add_list e e2 ?_ (by rw [List.size_toArray, List.size_toArray]; omega)
  have ea : its.toArray ++ its2.toArray = (its ++ its2).toArray := by simp
  rw [ea]
  exact ⟨.ref _, _, I.lnew (t' := s.toks) (r.append r2) (by rw [List.length_append]; omega), rfl, q _ I.fresh⟩
theorem fzs_app : ∀ {xs ys : List D}, fzs (xs ++ ys) = fzs xs ++ fzs ys
  | [], _ => rfl
  | x :: xs, ys => congrArg (fz x :: ·) (fzs_app (xs := xs) (ys := ys))
theorem de_add (ha : DE X L a ma) (hb : DE X L b mb) : DE X L (.BinOp a .Add b pos) (m2 oAddA ma mb) :=
  de_op (OpR.or op_add (OpR.or op_add_str (OpR.or op_catL op_catA))) (fun F A B1 B2 H σ Q d1 d2 v1 v2 ρ st dj dj' en q1 q2 p => by
    cases d1 <;> cases d2 <;> first | exact p.elim | skip
    · rename_i i j
      exact .inl ⟨i, j, q1, q2, p.leaf (w := .int _) rfl st (fun b x => .inl (.inl x)) en⟩
    · rename_i x y
      have p : Post X.K L rE F (un (un A B2) B1) H σ Q (if szOk (x.length + y.length) then .ok (.str (x ++ y)) ρ else .bad) := p
      by_cases hz : szOk (x.length + y.length) = true
      · rw [if_pos hz] at p
        exact .inr (.inl ⟨x, y, q1, q2, of_decide_eq_true hz, p.leaf (w := .str _) rfl st (fun b x => .inl (.inl x)) en⟩)
      · rw [if_neg hz] at p; exact p.elim
    · rename_i xs ys
      have p : Post X.K L rE F (un (un A B2) B1) H σ Q (if szOk (xs.length + ys.length) then .ok (.tup (xs ++ ys)) ρ else .bad) := p
      by_cases hz : szOk (xs.length + ys.length) = true
      · rw [if_pos hz] at p
        obtain ⟨a1, vs1, rfl, t1, r1⟩ := q1
        obtain ⟨a2, vs2, rfl, t2, r2⟩ := q2
        have rr := r1.append r2 (fun b x y => dj' b (.inr y) x)
        have st' : Sta F (un A (un B1 B2)) H := st.sub fun b x => x.elim (fun x => .inl (.inl x)) fun x => x.elim .inr fun x => .inl (.inr x)
        have dj2 : Dj A (un B1 B2) := fun b x y => y.elim (dj' b (.inl x)) (dj b x)
        have p' := Post.step ((Step.refl st).sub (A'' := un A (un B1 B2)) fun b x => x.elim (fun x => .inl (.inl x)) fun x => x.elim .inr fun x => .inl (.inr x)) p
        refine .inr (.inr (.inr ⟨a1, a2, vs1, vs2, rfl, rfl, t1.sq, t2.sq, by rw [← r1.len, ← r2.len]; exact of_decide_eq_true hz, fun e => ?_, fun e1 e => ?_, fun _ _ l np => end_tup st' dj2 en rr np p'⟩))
        · subst e
          exact p'.ret st' (fun _ x => x) dj2 en ⟨a2, vs2, rfl, t2, rr⟩
        · subst e
          rw [List.append_nil] at rr
          exact p'.ret st' (fun _ x => x) dj2 en ⟨a1, vs1, rfl, t1, rr⟩
      · rw [if_neg hz] at p; exact p.elim
    · rename_i o xs o2 ys
      have p : Post X.K L rE F (un (un A B2) B1) H σ Q (if szOk (xs.length + ys.length) then .ok (.lst true (fzs xs ++ fzs ys)) ρ else .bad) := p
      by_cases hz : szOk (xs.length + ys.length) = true
      · rw [if_pos hz, ← fzs_app] at p
        obtain ⟨a1, vs1, A1, rfl, t1, s1, r1⟩ := q1.lst
        obtain ⟨a2, vs2, A2, rfl, t2, s2, r2⟩ := q2.lst
        have rr := (r1.append r2 (fun b x y => dj' b (.inr (s2 b y)) (s1 b x))).move (A' := un B1 B2) (fun _ x => x) (fun _ _ _ e => e) fun b x => x.imp (s1 b) (s2 b)
        have st' : Sta F (un A (un B1 B2)) H := st.sub fun b x => x.elim (fun x => .inl (.inl x)) fun x => x.elim .inr fun x => .inl (.inr x)
        have dj2 : Dj A (un B1 B2) := fun b x y => y.elim (dj' b (.inl x)) (dj b x)
        have p' := Post.step ((Step.refl st).sub (A'' := un A (un B1 B2)) fun b x => x.elim (fun x => .inl (.inl x)) fun x => x.elim .inr fun x => .inl (.inr x)) p
        exact .inr (.inr (.inl ⟨a1, a2, vs1, vs2, rfl, rfl, t1, t2, by rw [← r1.len, ← r2.len]; exact of_decide_eq_true hz, fun l np => end_lstF st' dj2 en rr np p'⟩))
      · rw [if_neg hz] at p; exact p.elim) ha hb
end
end T
end

section
set_option Elab.async false
set_option linter.all false
set_option maxRecDepth 100000
set_option maxHeartbeats 4000000
namespace T
open PySem PySem.Spec PyProof.Rows L2
/-! ### lists that are owned by a name, changed in place -/
section
variable {K : Frag} {L : Lc} {F A B : FP} {H : Hp} {ρ : Ro} {σ : L2.St} {i : Nat} {ds : List D}
theorem EnvL.updL (en : EnvL K L F H ρ σ A) (e : ρ[i]? = some (some (.lst true ds))) (st : Sta F (un A B) H) (dj : Dj A B) :
    ∃ a vs, σ[i]? = some (some (.ref a)) ∧ H a = some (.lst vs) ∧ ds.length = vs.length ∧ ∀ ds' vs', (∀ A', Dj A' B → Reps K L.cA F H ds vs A' → Reps K L.cA F H ds' vs' (un A' B)) →
      Step F (un A B) H F (un A B) (upd H a (.lst vs')) ∧ EnvL K L F (upd H a (.lst vs')) (ρ.set i (some (.lst true ds'))) σ (un A B) := by
  obtain ⟨v, A1, A2, e1, s, r, rs⟩ := en.env.take e
  obtain ⟨a, vs, A', rfl, t, ma, sa, rr⟩ := r
  refine ⟨a, vs, e1, t, rr.len, fun ds' vs' h => ?_⟩
  have nF : ∀ b, F b → b ≠ a := fun b x z => st.dj b (.inl (s.l b (by rw [z]; exact ma))) x
  have nB : ∀ b, B b → b ≠ a := fun b x z => dj b (by rw [z]; exact s.l _ ma) x
  have n2 : ∀ b, A2 b → b ≠ a := fun b x z => s.d b (by rw [z]; exact ma) x
  have step := upd_step (w := .lst vs') st t (.inl (s.l a ma)) (fun _ z => nomatch z)
  have r2 : Reps K L.cA F (upd H a (.lst vs')) ds' vs' (un A' B) := (h A' (fun b x y => dj b (s.l b (sa b x).1) y) rr).move (fun _ x => x) (upd_keep fun b x => x.elim (nF b) fun x => x.elim (fun x => (sa b x).2) (nB b)) fun _ x => x
  have r3 : Rep K L.cA F (upd H a (.lst vs')) (.lst true ds') (.ref a) (un A1 B) := ⟨a, vs', un A' B, rfl, upd_same, .inl ma, fun b x => ⟨x.imp (fun x => (sa b x).1) id, x.elim (fun x => (sa b x).2) (nB b)⟩, r2⟩
  have rs' := rs.move (F' := F) (H' := upd H a (.lst vs')) (fun _ x => x) (upd_keep fun b x => x.elim (nF b) (n2 b)) (fun _ x => x)
  have en' := rs'.back (i := i) r3 (fun b x y => y.elim (fun y => s.d b y x) fun y => dj b (s.r b x) y) e1
  rw [List.set_set] at en'
  exact ⟨step, en'.move (fun _ x => x) (fun _ _ _ e => e) fun b x => x.elim (fun x => .inl (s.r b x)) fun x => x.imp (s.l b) id, en.pin⟩
theorem Reps.set {cA : Cid → Addr} : ∀ {ds : List D} {vs : List V} {A B : FP} {d : D} {v : V} (j : Nat), Reps K cA F H ds vs A → Rep K cA F H d v B → Dj A B → Reps K cA F H (ds.set j d) (vs.set j v) (un A B)
  | [], _, A, B, d, v, j, r, q, dj => by cases r; rfl
  | d' :: ds, _, A, B, d, v, 0, r, q, dj => by
    obtain ⟨w, vs', A1, A2, rfl, s, h, rs⟩ := r
    exact ⟨v, vs', B, A2, rfl, ⟨fun _ x => .inr x, fun b x => .inl (s.r b x), fun b x y => dj b (s.r b y) x⟩, q, rs⟩
  | d' :: ds, _, A, B, d, v, j + 1, r, q, dj => by
    obtain ⟨w, vs', A1, A2, rfl, s, h, rs⟩ := r
    exact ⟨w, _, A1, un A2 B, rfl, ⟨fun b x => .inl (s.l b x), fun b x => x.imp (s.r b) id, fun b x y => y.elim (s.d b x) (dj b (s.l b x))⟩, h, Reps.set j rs q fun b x y => dj b (s.r b x) y⟩
theorem Reps.one {cA : Cid → Addr} {d : D} {v : V} (q : Rep K cA F H d v B) : Reps K cA F H [d] [v] B := ⟨v, [], B, no, rfl, ⟨fun _ x => x, fun _ x => x.elim, fun _ _ x => x⟩, q, rfl⟩
end
section
variable {X : Cx} {L : Lc} {pos apos p : Pos} {x : Str} {e : Expr} {m : Ro → R D} {id : String} {name : Str} {r : V → List V → Hp → VK → Prop}
/-- x.append(e), x.extend(e) -/
def mMut (i : Nat) (f : List D → D → Option (List D)) (m : Ro → R D) : Ro → RS := fun ρ => match ρ[i]? with
  | some (some (.lst true _)) => bS (m ρ) fun d ρ1 => (match ρ1[i]? with
    | some (some (.lst true ds)) => (match f ds d with
      | some ds' => .nx (ρ1.set i (some (.lst true ds')))
      | none => .bad)
    | _ => .bad)
  | _ => .bad
/-- what such a method does with the list, its argument d (frozen: it may be shared from now on) -/
def MutOk (K : Frag) (L : Lc) (r : V → List V → Hp → VK → Prop) (f : List D → D → Option (List D)) : Prop := ∀ F A B H σ (Q : VK) ds ds' d v ρ i, EnvL K L F H ρ σ A → Sta F (un A B) H → Dj A B → ρ[i]? = some (some (.lst true ds)) → Rep K L.cA F H d v B → f ds d = some ds' →
  (∀ H' F' A', Step F (un A B) H F' A' H' → EnvL K L F' H' (ρ.set i (some (.lst true ds'))) σ A' → Q .non H') → ∀ a, σ[i]? = some (some (.ref a)) → r (.ref a) [v] H Q
theorem ds_mut (i : Nat) {f : List D → D → Option (List D)} (slot : Slot "list" name id) (hty : typeOf (.builtin id) = pure (.type "method_descriptor")) (hm : MtM X id r) (mk : MutOk X.K L r f) (he : DE X L e m)
    (hN : X.N[i]? = some x := by rfl) (hv : Vis X.env.scope x := by first | exact Or.inl rfl | exact Or.inr (Or.inl rfl) | exact Or.inr (Or.inr rfl)) (hd : (x == ("__debug__" : Str)) = false := by decide) (hcd : (x == ("__classdict__" : Str)) = false := by decide)
    (hpe : PE X (.Call (.Attribute (.Name x p) name apos) [e] [] pos) (tBM X.K "list" r (tVar i) (tCons (lft X.K L rE m) tNil))) (hs : swapsWith (.Call (.Attribute (.Name x p) name apos) [e] [] pos) none pos.line X.env = pure false := by rfl) :
    DS X L (.Expr (.Call (.Attribute (.Name x p) name apos) [e] [] pos) pos) (mMut i f m) := ⟨ps_to (ps_expr hpe hs) fun Dn σ H ⟨ρ, F, A, st, en, po⟩ => by
  unfold mMut at po
  split at po
  · rename_i ds0 e0
    obtain ⟨v, A1, A2, e1, s, r0, rs⟩ := en.env.take e0
    obtain ⟨a, vs, A', rfl, t, ma, sa, rr⟩ := r0
    refine ⟨.ref a, e1, Or.inl ⟨rfl, _, .inl (.inl t)⟩, ?_⟩
    refine lftS_bind (m := m) ⟨ρ, F, A, st, en, po⟩ fun y H1 F1 A1' B1 d ρ1 st1 dj1 en1 q1 p1 => ?_
    split at p1
    · rename_i ds e2
      split at p1
      · rename_i ds' ef
        exact mk F1 A1' B1 H1 σ _ ds ds' d y ρ1 i en1 st1 dj1 e2 q1 ef (fun H' F' A'' s' en' => p1 σ H' F' A'' s' en') a e1
      · exact p1.elim
    · exact p1.elim
  · exact po.elim⟩
def fApp : List D → D → Option (List D) := fun ds d => if decide (ds.length < sizeLine) then some (ds ++ [d]) else none
theorem mk_app {K : Frag} : MutOk K L rAppend fApp := by
  intro F A B H σ Q ds ds' d v ρ i en st dj e q ef h a ea
  unfold fApp at ef
  split at ef
  · rename_i hz
    cases ef
    obtain ⟨a', vs, e1, t, l, up⟩ := en.updL e st dj
    rw [ea] at e1
    cases e1
    obtain ⟨s, en'⟩ := up (ds ++ [d]) (vs ++ [v]) fun A' dj' rr => rr.append (Reps.one q) dj'
    exact ⟨a, vs, v, rfl, rfl, t, by rw [← l]; exact of_decide_eq_true hz, h _ F _ s en'⟩
  · cases ef
def fExt : List D → D → Option (List D) := fun ds d => match d with
  | .lst _ es => if szOk (ds.length + es.length) then some (ds ++ fzs es) else none
  | _ => none
end
end T
end

section
set_option Elab.async false
set_option linter.all false
set_option maxRecDepth 100000
set_option maxHeartbeats 1000000
namespace T
open PySem PySem.Spec PyProof.Rows L2
theorem law_coreG {P : Program} {w : World} {K : PySem.W.Frag} {mg mb : Str → Option Value} {CX : CXT} {k : Nat} {fa a : Addr} {fd : FuncData} {x : Str} {sp : Sp} {s₁ : Shared} {vs : List Value}
    (KX : K.In s₁.heap) (hns : s₁.heap.Ns mainGlobals mg) (hb : s₁.heap.Ns builtinsNs mb) (hbb : ∀ x : Str, x ≠ Str.ofString "__name__" → mb x = bootBuiltins x) (hlim : s₁.heap.NoLimit) (hg : s₁.gens = #[]) (ha : s₁.heap.get? a = some { cls := .type "list", data := .seq vs.toArray })
    (hr : Roo k callerA) (F : ∀ base : Heap, K.In base → base.Ns mainGlobals mg → FnG P w K mg base CX k fa fd [x] sp) (hbind : ∀ (s : Shared) (u : Value), BindsTo s fd { pos := [u] } [(x, u)])
    (hCX : ∀ (H : Hp) (e : Value) (s' : Shared), CX [] H s₁ (fun _ _ _ => False) e s' → False) (H : Hp) (hO : Only H) (hok : HOk P w H s₁.heap) (hA : ∀ b, H b ≠ none → b = a) (hK : H a ≠ none → K.lookup a = none) (hsp : sp [.ref a] H (fun v _ => v = .bl true) fun _ _ _ => False) :
    codeAny (model P w) callerA (Code.call (.ref fa) { pos := [.ref a] }) (fun r s' => r = Except.ok (Flow.ret (.bool true)) ∧ OldK s₁.heap s'.heap ∧ s'.os = s₁.os ∧ AllBare s'.gens) s₁ := by
  have base_of : ∀ {b : Addr} {o : Obj}, s₁.heap.get? b = some o → H b = none → (hidT s₁.heap H).get? b = some o := fun e n => hidT_get e n
  have noA : ∀ {b : Addr} {o : Obj} {es : Array DictEntry} {ep : Nat}, s₁.heap.get? b = some o → o.data = .dict es ep → H b = none := fun {b o es ep} e d => by
    cases q : H b with
    | none => rfl
    | some u =>
      have e' := hA b (by rw [q]; exact fun z => nomatch z)
      rw [e', ha] at e
      cases e
      cases d
  have nsK : ∀ {b : Addr} {m : Str → Option Value}, s₁.heap.Ns b m → (hidT s₁.heap H).Ns b m := fun ⟨o, es, ep, e, d, r⟩ => ⟨o, es, ep, base_of e (noA e d), d, r⟩
  have hKb : K.In (hidT s₁.heap H) := fun b o e => base_of (KX b o e) (by
    cases q : H b with
    | none => rfl
    | some u =>
      have e' := hA b (by rw [q]; exact fun z => nomatch z)
      have := hK (by rw [← e', q]; exact fun z => nomatch z)
      rw [e', this] at e
      cases e)
  obtain ⟨mc, h1, h2⟩ := hlim
  have hM : Mod K mg (hidT s₁.heap H) := ⟨hKb, nsK hns, ⟨mb, nsK hb, hbb⟩, ⟨mc, nsK h1, h2⟩⟩
  have e0 : Env0 P w K mg (hidT s₁.heap H) callerA [] s₁ H := { frames := rfl, mod := hM, bs := fun b o e => of_hidT e, bsz := Nat.le_of_eq (hidT_size s₁.heap H), funs := trivial, frf := fun b hb => absurd hb (by simp [frs]), hok := hok, bare := AllBare.of_eq hg }
  refine codeAny_mono ((F _ hKb (nsK hns)).run callerA [] s₁ H { pos := [.ref a] } [.ref a] [.ref a] (fun v _ => v = .bl true) (fun _ _ _ => False) hr e0 (hbind s₁ (.ref a)) (.cons rfl .nil) hsp) fun r s' h => ?_
  cases r with
  | error e => exact (hCX H e s' h).elim
  | ok fl =>
    cases fl with
    | next => exact False.elim h
    | brk => exact False.elim h
    | cont => exact False.elim h
    | ret u =>
      obtain ⟨v, H', os, bare, un, hok', r', q⟩ := h
      have q : v = .bl true := q
      subst q
      cases (show u = Value.bool true from r')
      refine ⟨rfl, OldK.of_keep fun b o e => ?_, os, bare⟩
      cases q : H b with
      | none => exact un.keep b o e q (by simp [frs]) (by simp)
      | some u =>
        rcases hO b with z | ⟨ob, xs, z⟩
        · rw [z] at q; cases q
        · have z2 := un.frzs b ob (.lst xs) z
          obtain ⟨e1, _⟩ := hok b _ z
          obtain ⟨e2, _⟩ := hok' b _ z2
          rw [e] at e1
          cases e1
          exact e2
def noLst (K : PySem.W.Frag) : Bool := K.all fun p => !(p.2.cls == Value.type "list")
theorem noLst_at {K : PySem.W.Frag} (h : noLst K = true) {a : Addr} {o : Obj} (e : K.lookup a = some o) (c : o.cls = .type "list") : False := by
  induction K with
  | nil => cases e
  | cons p K ih =>
    obtain ⟨b, u⟩ := p
    have h' := h
    simp only [noLst, List.all_cons, Bool.and_eq_true] at h'
    rw [List.lookup_cons] at e
    split at e
    · cases e
      rw [c] at h'
      exact absurd h'.1 (by decide)
    · exact ih h'.2 e
theorem law_callG {P : Program} {w : World} {K : PySem.W.Frag} {mg mb : Str → Option Value} {CX : CXT} {k : Nat} {fa a : Addr} {fd : FuncData} {x : Str} {sp : Sp} {s₁ : Shared} {vs : List Value} {ns : List Int}
    (KX : K.In s₁.heap) (hns : s₁.heap.Ns mainGlobals mg) (hb : s₁.heap.Ns builtinsNs mb) (hbb : ∀ x : Str, x ≠ Str.ofString "__name__" → mb x = bootBuiltins x) (hlim : s₁.heap.NoLimit) (hg : s₁.gens = #[]) (ha : s₁.heap.get? a = some { cls := .type "list", data := .seq vs.toArray }) (hnl : noLst K = true)
    (hi : IntsAre vs ns) (hl : ns.length ≤ sizeLine) (hr : Roo k callerA) (F : ∀ base : Heap, K.In base → base.Ns mainGlobals mg → FnG P w K mg base CX k fa fd [x] sp) (hbind : ∀ (s : Shared) (u : Value), BindsTo s fd { pos := [u] } [(x, u)])
    (hsp : ∀ (H : Hp) (o : Obj), (∀ b, H b ≠ none → b = a) → H a = some (.frz o (.lst (ns.map V.int))) → sp [.ref a] H (fun v _ => v = .bl true) fun _ _ _ => False) (hCX : ∀ (H : Hp) (e : Value) (s' : Shared), CX [] H s₁ (fun _ _ _ => False) e s' → False) :
    codeAny (model P w) callerA (Code.call (.ref fa) { pos := [.ref a] }) (fun r s' => r = Except.ok (Flow.ret (.bool true)) ∧ OldK s₁.heap s'.heap ∧ s'.os = s₁.os ∧ AllBare s'.gens) s₁ := by
  have rv := vals_ints hi
  cases hk : K.lookup a with
  | none =>
    have hA : ∀ b, (fun b => if b = a then some (HO.frz { cls := .type "list", data := .seq vs.toArray } (.lst (ns.map V.int))) else none) b ≠ none → b = a := fun b z => by
      by_cases hb : b = a
      · exact hb
      · exact absurd (if_neg hb) z
    refine law_coreG KX hns hb hbb hlim hg ha hr F hbind hCX (fun b => if b = a then some (.frz { cls := .type "list", data := .seq vs.toArray } (.lst (ns.map V.int))) else none) (fun b => ?_) (fun b u z => ?_) hA (fun _ => hk) (hsp _ _ hA (if_pos rfl))
    · by_cases hb : b = a
      · exact .inr ⟨_, _, if_pos hb⟩
      · exact .inl (if_neg hb)
    · by_cases hb : b = a
      · have z' := (if_pos hb).symm.trans z
        cases z'
        subst hb
        exact ⟨ha, by rw [List.length_map]; exact hl, vs, 0, rv, ha⟩
      · have z' := (if_neg hb).symm.trans z
        cases z'
  | some o =>
    have e := KX a o hk
    rw [ha] at e
    cases e
    exact (noLst_at hnl hk rfl).elim
theorem walk_ofG {l : PySem.W.OpenLaw} {n k : Nat} {q : Program} {loose : List Str} {XP : (Str → Option Value) → Heap → Prop} {YP : World → Heap → Prop} {d : DefRec} {K : Params → PySem.W.Frag} {CX : World → CXT} {sp : World → Sp} {x : Str} (hn : l.most = some n) (hn2 : n ≤ sizeLine) (hdf : d.params.defaults = []) (hr : Roo k callerA) (hnl : ∀ w : World, noLst (K w.params) = true) (hY : ∀ (w : World) (h : Heap), YP w h → (K w.params).In h)
    (F : ∀ (w : World) (mg : Str → Option Value) (fa : Addr) (h : Heap), (K w.params).In h → h.Ns mainGlobals mg → mg d.name = some (.ref fa) → ∃ fd : FuncData, (∀ (s : Shared) (u : Value), BindsTo s fd { pos := [u] } [(x, u)]) ∧ ∀ base : Heap, (K w.params).In base → base.Ns mainGlobals mg → FnG l.prog w (K w.params) mg base (CX w) k fa fd [x] (sp w))
    (hsp : ∀ (w : World) (H : Hp) (a : Addr) (ns : List Int) (o : Obj), ns.length ≤ n → (∀ b, H b ≠ none → b = a) → H a = some (.frz o (.lst (ns.map V.int))) → sp w [.ref a] H (fun v _ => v = .bl true) fun _ _ _ => False) (hCX : ∀ (w : World) (H : Hp) (s : Shared) (e : Value) (s' : Shared), CX w [] H s (fun _ _ _ => False) e s' → False) :
    PySem.W.WalkO q loose XP YP l.row.toRowW d [] fun f vs => call f vs :=
  Att.attach_call hn hdf fun w s₀ s₁ mg mb fa o pm cd doc a vs ns G Y ho hd hcd hmg hobj hints hlen hg => by
    have KX := hY w s₁.heap Y
    have T := PySem.W.Ground.T G
    obtain ⟨fd, hb, hF⟩ := F w mg fa s₁.heap KX T.g hmg
    exact law_callG KX T.g T.b T.builtins T.nolimit hg hobj (hnl w) hints (Nat.le_trans hlen hn2) hr hF hb (fun H o hO hS => hsp w H a ns o hlen hO hS) fun H e s' => hCX w H s₁ e s'
theorem reps_ints {K : PySem.W.Frag} {cA : Cid → Addr} {F : FP} {H : Hp} : ∀ {ns : List Int}, Reps K cA F H (ns.map D.int) (ns.map V.int) no
  | [] => rfl
  | n :: ns => ⟨_, _, no, no, rfl, ⟨fun _ z => z, fun _ z => z, fun _ z => z.elim⟩, rfl, reps_ints (ns := ns)⟩
/-- the law's def answers True for every script -/
theorem walk_T {l : PySem.W.OpenLaw} {n k : Nat} {q : Program} {loose : List Str} {XP : (Str → Option Value) → Heap → Prop} {YP : World → Heap → Prop} {d : DefRec} {K : Params → PySem.W.Frag} {f : List D → RF} {x : Str} (hn : l.most = some n) (hn2 : n ≤ sizeLine) (hdf : d.params.defaults = []) (hr : Roo k callerA) (hnl : ∀ w : World, noLst (K w.params) = true) (hY : ∀ (w : World) (h : Heap), YP w h → (K w.params).In h)
    (F : ∀ (w : World) (mg : Str → Option Value) (fa : Addr) (h : Heap), (K w.params).In h → h.Ns mainGlobals mg → mg d.name = some (.ref fa) → ∃ (fd : FuncData) (cA : Cid → Addr), (∀ (s : Shared) (u : Value), BindsTo s fd { pos := [u] } [(x, u)]) ∧ ∀ base : Heap, (K w.params).In base → base.Ns mainGlobals mg → FnT l.prog w (K w.params) mg base cA k fa fd [x] [] f)
    (hf : ∀ ns : List Int, ns.length ≤ n → f [.lst false (ns.map D.int)] = .ok (.bl true) []) : PySem.W.WalkO q loose XP YP l.row.toRowW d [] fun f vs => call f vs :=
  walk_ofG (CX := fun w => L2.CX l.prog w) (sp := fun w vs H Q E => ∀ cA, spT (K w.params) cA 1 [] f vs H Q E) hn hn2 hdf hr hnl hY (fun w mg fa h KX G e => by
    obtain ⟨fd, cA, hb, hF⟩ := F w mg fa h KX G e
    exact ⟨fd, hb, fun base h1 h2 => (hF base h1 h2).imp fun vs H Q E z => z cA⟩) (fun w H a ns o hl hA e cA => by
    refine ⟨rfl, [.lst false (ns.map D.int)], (· = a), no, ⟨fun _ z => z.elim, fun b z => ?_, fun _ _ z => z.elim⟩, ?_, ?_⟩
    · rcases z with z | z
      · rw [show b = a from z, e]; exact fun z => nomatch z
      · exact z.elim
    · exact ⟨_, _, no, no, rfl, ⟨fun _ z => z, fun _ z => z, fun _ z => z.elim⟩, ⟨a, _, rfl, ⟨.inr ⟨o, e⟩, rfl⟩, reps_ints⟩, rfl⟩
    · rw [hf ns hl]
      exact fun v H' F' A' B _ _ _ r => r) fun w H s e s' h => h.elim fun _ ⟨_, _, _, _, _, _, _, _, _, _, _, z⟩ => z
end T
end

section
set_option Elab.async false
set_option linter.all false
set_option maxRecDepth 100000
set_option maxHeartbeats 4000000
namespace T
open PySem PySem.Spec PyProof.Rows L2
/-! ### own exceptions over ArithmeticError -/
abbrev aeTail : List Value := [.type "ArithmeticError", .type "Exception", .type "BaseException", .type "object"]
def refsAE : List Value → Bool
  | .ref _ :: r => refsAE r
  | l => l == aeTail
theorem refsAE_cases : ∀ {l : List Value}, refsAE l = true → (∃ c r, l = .ref c :: r ∧ refsAE r = true) ∨ l = aeTail := by
  intro l h
  unfold refsAE at h
  split at h
  · exact .inl ⟨_, _, rfl, h⟩
  · exact .inr (by simpa using h)
theorem aeTail_pass (self : Value) : refuseLoop self (Str.ofString "__setattr__") aeTail = pure () := rfl
theorem refsAE_facts : ∀ {l : List Value}, refsAE l = true → l.isEmpty = false ∧ (∀ X : String, l.contains (Value.type X) = aeTail.contains (Value.type X)) ∧ ∀ self, refuseLoop self (Str.ofString "__setattr__") l = pure ()
  | [], h => absurd h (by decide)
  | v :: l, h => by
    rcases refsAE_cases h with ⟨c, r, e, h'⟩ | e
    · cases e
      have ih := refsAE_facts (l := l) h'
      refine ⟨rfl, fun X => ?_, fun self => ?_⟩
      · rw [List.contains_cons, ih.2.1 X]; rfl
      · rw [refuseLoop_ref]; exact ih.2.2 self
    · rw [e]
      exact ⟨rfl, fun _ => rfl, aeTail_pass⟩
theorem osa_run {prog : Program} {w : World} {A : Around} {R : Result → Shared → Prop} {hp : Heap} {g : Array GenState} {d : Drawn} {t : Nat} {os : OsState} {K : PySem.W.Frag} {name : Str} {tk : Tok} {v : Value} {x C : Addr} {ox : Obj} {od : Option Obj} {cd : ClassData}
    (X : K.In hp) (I : PySem.W.InstAt hp x ox C od) (hcd : PySem.W.clsIn K C = some cd) (hm : refsAE cd.mro = true) (hh : cd.hasDict = true) (ha : PySem.W.findIn K (.ref C) name = some none)
    (hq : wpAny (model prog w) (Around.in1 A) (Builtin.ObjectAttr.storeInOwnDict (.ref x) (.ref C) (.str name tk) name v false) (fun fin s' => match fin with
      | Fin.done f => R (Except.ok f) s'
      | Fin.again c' => Code.quiet c' = true ∧ codeAny (model prog w) A c' R s') (fun e s' => R (Except.error e) s') { heap := hp, gens := g, drawn := d, toks := t, os := os }) :
    codeAny (model prog w) A (Code.call (.builtin "object.__setattr__") { pos := [.ref x, .str name tk, v] }) R { heap := hp, gens := g, drawn := d, toks := t, os := os } := by
  have SF := F.store_object
  obtain ⟨ne, ct, ps⟩ := refsAE_facts hm
  have sub : PySem.W.Looks (model prog w) hp (isSubtype (.ref C) (.type "object")) true := PySem.W.looks_mroIn X (by
    show (PySem.W.clsIn K C).bind (fun cd => if cd.mro.isEmpty = true then none else some (cd.mro.contains (Value.type "object"))) = some true
    rw [hcd, Option.bind_some, ne, if_neg (by decide), ct]
    rfl)
  have sub' : PySem.W.Looks (model prog w) hp (isInstance (.ref x) (.type "object")) true := by
    unfold isInstance
    exact PySem.W.Looks.andThen (f := fun tp => isSubtype tp (.type "object")) (PySem.W.InstAt.type I) sub
  refine codeAny_call_builtin (Slot.plain SF.slot) SF.entry ?_
  have z := @PySem.W.check_slot (model prog w) (Around.in1 A) (fun e s' => R (Except.error e) s') { heap := hp, gens := g, drawn := d, toks := t, os := os } "object.__setattr__" "object" "__setattr__" (.ref x) [.str name tk, v] []
  refine z SF.kind SF.split sub' (SF.args (.ref x) (.str name tk) v) ?_
  rw [PySem.W.osa_eq, refuse_eq]
  refine wpAny_bind (wpAny_bind (PySem.W.Looks.at (PySem.W.InstAt.type I) (wpAny_bind (PySem.W.Looks.at (PySem.W.Looks.andThen (PySem.W.looks_clsIn X hcd) PySem.W.Looks.now) ?_))))
  rw [ps]
  refine wpAny_pure (wpAny_bind (PySem.W.Looks.at (PySem.W.InstAt.type I) (wpAny_bind (PySem.W.Looks.at (PySem.W.looks_findIn X ha) (wpAny_bind (PySem.W.Looks.at PySem.W.Looks.now ?_))))))
  exact hq
end T
end

section
set_option Elab.async false
set_option linter.all false
set_option maxRecDepth 100000
set_option maxHeartbeats 1000000
namespace T
open PySem PySem.Spec PyProof.Rows L2
/-- .. into a new dict -/
theorem osa_new {prog : Program} {w : World} {A : Around} {R : Result → Shared → Prop} {hp : Heap} {g : Array GenState} {d : Drawn} {t : Nat} {os : OsState} {K : PySem.W.Frag} {name : Str} {tk : Tok} {v : Value} {x C : Addr} {fv : Array Value} {cd : ClassData}
    (X : K.In hp) (hx : hp.get? x = some { cls := .ref C, data := .fields fv }) (hcd : PySem.W.clsIn K C = some cd) (hm : refsAE cd.mro = true) (hh : cd.hasDict = true) (ha : PySem.W.findIn K (.ref C) name = some none)
    (hq : ∀ (h' : Heap) (tk' dx : Nat), (∀ (b : Addr) (o : Obj), b ≠ x → hp.get? b = some o → h'.get? b = some o) → hp.objs.size ≤ dx → dx ≠ x → h'.get? x = some { cls := .ref C, dict := some dx, data := .fields fv } →
      Heap.Ns1 h' dx (fun y => if y = name then some v else none) → R (Except.ok (Flow.ret Value.none)) { heap := h', gens := g, drawn := d, toks := tk', os := os }) :
    codeAny (model prog w) A (Code.call (.builtin "object.__setattr__") { pos := [.ref x, .str name tk, v] }) R { heap := hp, gens := g, drawn := d, toks := t, os := os } := by
  have I : PySem.W.InstAt hp x { cls := .ref C, data := .fields fv } C none := ⟨hx, rfl, rfl, trivial⟩
  have hxs : x ≠ hp.objs.size := Nat.ne_of_lt (Heap.lt_size hx)
  obtain ⟨nm, bs, mro, ns, qn, hd, sn, sb, ab, col, del⟩ := cd
  cases (show hd = true from hh)
  refine osa_run X I hcd hm hh ha ?_
  refine wpAny_bind (wpAny_pure (wpAny_ite_false rfl (wpAny_bind (wpAny_bind (wpAny_loadPart_at hx (wpAny_bind (PySem.W.Looks.at (PySem.W.looks_clsIn X hcd) (wpAny_ite_false rfl (wpAny_ite_false rfl (wpAny_bind (wpAny_alloc' (wpAny_bind (wpAny_update' (Heap.get?_push_of_some _ hx) (wpAny_pure ?_))))))))))))))
  refine HandSPX.store_in_new ⟨{ cls := .type "dict", data := .dict #[] }, #[], 0, (Heap.get?_update_ne _ _ _ _ (Ne.symm hxs)).trans (Heap.get?_push_at rfl rfl), rfl, (fun e he => absurd he (by simp)), (fun _ => rfl)⟩ (fun h' tk' hn' hs => ?_)
  have hx₁ := Heap.get?_push_of_some { cls := .type "dict", data := .dict #[] } hx
  refine hq h' tk' hp.objs.size (fun b o hb ho => (hs.2 b (Nat.ne_of_lt (Heap.lt_size ho))).trans ((Heap.get?_update_ne _ _ _ _ hb).trans (Heap.get?_push_of_some _ ho))) (Nat.le_refl _) (Ne.symm hxs) ((hs.2 x hxs).trans (Heap.get?_update_self _ hx₁ rfl)) hn'
/-- .. into its dict -/
theorem osa_old {prog : Program} {w : World} {A : Around} {R : Result → Shared → Prop} {hp : Heap} {g : Array GenState} {d : Drawn} {t : Nat} {os : OsState} {K : PySem.W.Frag} {name : Str} {tk : Tok} {v : Value} {x C dx : Addr} {fv : Array Value} {cd : ClassData} {m0 : Str → Option Value} {nl : List Str}
    (X : K.In hp) (hx : hp.get? x = some { cls := .ref C, dict := some dx, data := .fields fv }) (hns : Heap.Ns1 hp dx m0) (hw : PySem.Within m0 nl) (hz : nl.length ≤ 1000) (hcd : PySem.W.clsIn K C = some cd) (hm : refsAE cd.mro = true) (hh : cd.hasDict = true) (ha : PySem.W.findIn K (.ref C) name = some none)
    (hq : ∀ (h' : Heap) (tk' : Nat), (∀ (b : Addr) (o : Obj), b ≠ dx → hp.get? b = some o → h'.get? b = some o) → Heap.Ns1 h' dx (fun y => if y = name then some v else m0 y) → R (Except.ok (Flow.ret Value.none)) { heap := h', gens := g, drawn := d, toks := tk', os := os }) :
    codeAny (model prog w) A (Code.call (.builtin "object.__setattr__") { pos := [.ref x, .str name tk, v] }) R { heap := hp, gens := g, drawn := d, toks := t, os := os } := by
  obtain ⟨oD, esD, epD, hoD, hdD, _⟩ := Heap.Ns1.count hns hw
  have I : PySem.W.InstAt hp x { cls := .ref C, dict := some dx, data := .fields fv } C (some oD) := ⟨hx, rfl, rfl, hoD⟩
  obtain ⟨nm, bs, mro, ns, qn, hd, sn, sb, ab, col, del⟩ := cd
  cases (show hd = true from hh)
  refine osa_run X I hcd hm hh ha ?_
  refine wpAny_bind (wpAny_pure (wpAny_ite_false rfl (wpAny_bind (wpAny_bind (wpAny_loadPart_at hx (wpAny_bind (PySem.W.Looks.at (PySem.W.looks_clsIn X hcd) (wpAny_ite_false rfl (wpAny_pure ?_)))))))))
  exact OEX.store_in_old hns hw hz fun h' tk' hn' hs => hq h' tk' (fun b o hb ho => (hs.2 b hb).trans ho) hn'
end T
end

section
set_option Elab.async false
set_option linter.all false
set_option maxRecDepth 100000
set_option maxHeartbeats 1000000
namespace T
open PySem PySem.Spec PyProof.Rows L2
structure AexC (K : PySem.W.Frag) (C : Addr) : Prop where
  cls : ∃ nm q N bs bm sn sub ab col dd k0 k1 k2 k3 k5, K.lookup C = some (excClassObj nm q C N bs bm true sn sub ab col dd k0 k1 k2 k3 k5 "ArithmeticError.__new__") ∧ refsAE bm = true
  sa : PySem.W.findIn K (.ref C) (Str.ofString "__setattr__") = some (some (.builtin "object.__setattr__"))
  exC : PySem.W.subIn K (.ref C) (.type "BaseException") = some true
  tyC : PySem.W.typeIn K (.ref C) = some (.type "type")
  kC : PySem.W.keepIn K (.ref C) = true
theorem AexC.cd {K : PySem.W.Frag} {C : Addr} (T : AexC K C) : ∃ cd, PySem.W.clsIn K C = some cd ∧ refsAE cd.mro = true ∧ cd.hasDict = true := by
  obtain ⟨nm, q, N, bs, bm, sn, sub, ab, col, dd, k0, k1, k2, k3, k5, hC, hm⟩ := T.cls
  refine ⟨{ name := nm, bases := bs, mro := .ref C :: bm, ns := N, qualname := q, hasDict := true, slotNames := sn, subclasses := sub, abstract := ab, collection := col }, ?_, hm, rfl⟩
  unfold PySem.W.clsIn
  rw [hC]
section
variable {X : Cx} {pins : List (Addr × Obj)} {σ : L2.St} {H : Hp} {s : Shared} {a C dx : Addr} {f : Str} {y : V} {u : Value} {fs : List (Str × V)} {Q : Unit → Shared → Prop} {E : Value → Shared → Prop} {A : Around}
theorem ost_newA (T : AexC X.K C) (I : L2.Inv X pins σ H s) (e : H a = some (exo a C none)) (hno : PySem.W.findIn X.K (.ref C) f = some none) (ry : L2.RelV y u)
    (h : ∀ (dx : Addr) (s' : Shared), H dx = none → dx ≠ a → L2.Inv X pins σ (upd (upd H dx (exd dx [(f, y)])) a (exo a C (some dx))) s' → Q () s') : wpAny (model X.prog X.w) A (setAttr (.ref a) f u) Q E s := by
  obtain ⟨cd, hcd, hm, hh⟩ := T.cd
  obtain ⟨t1, ho⟩ := exo_at I.hok e
  obtain ⟨hp, g, d, t, os⟩ := s
  refine PySem.W.set_plain I.kIn (od := none) ⟨ho, rfl, rfl, trivial⟩ T.sa (osa_new I.kIn ho hcd hm hh hno fun h' tk' dx k dn dne hx hn => ?_)
  have hnd : H dx = none := I.hok.fresh dn
  have nd : ∀ {b : Addr} {o : Obj}, hp.get? b = some o → b ≠ dx := fun q => Nat.ne_of_lt (Nat.lt_of_lt_of_le (Heap.lt_size q) dn)
  have na : ∀ {b : Addr}, H b = none → b ≠ a := fun {b} n z => by rw [z, e] at n; cases n
  have U : Un X.fs [] H (upd (upd H dx (exd dx [(f, y)])) a (exo a C (some dx))) hp h' := {
    keep := fun b o q n _ _ => k b o (na n) q
    slot := fun b o q n _ _ => ⟨o.slots, k b o (na n) q⟩
    free := fun b o q n _ => by rw [upd_ne (na n), upd_ne (nd q)]; exact n
    there := fun b o q _ => by
      by_cases hb : b = a
      · rw [hb]; exact ⟨_, hx⟩
      · exact ⟨o, k b o hb q⟩
    tups := fun b xs q => by rw [upd_ne (at_ne e q exo_tup), upd_ne (ne_of_none q hnd)]; exact q
    frzs := fun b o v q => by rw [upd_ne (at_ne e q exo_frz), upd_ne (ne_of_none q hnd)]; exact q
    tbls := fun b ps q => ⟨#[], by rw [upd_ne (at_ne e q exo_tbl), upd_ne (ne_of_none q hnd), q]; simp⟩ }
  refine h dx _ hnd dne (I.un U fun b o q => ?_)
  by_cases hb : b = a
  · subst hb
    rw [upd_same] at q
    cases q
    exact exo_ok hx
  · rw [upd_ne hb] at q
    by_cases hd : b = dx
    · subst hd
      rw [upd_same] at q
      cases q
      exact exd_ok (mA := fun y => if y = f then some u else none) hn (relO_put ry fun g => trivial)
    · rw [upd_ne hd] at q
      refine (I.hok b o q).stay (fun c v hc z => k c v ?_ z) (fun c hc => ?_) fun c xs hc => ?_
      · rcases hc with hc | hc
        · rw [hc]; exact hb
        · exact at_ne e hc exo_own
      · rw [upd_ne (at_ne e hc exo_own), upd_ne (ne_of_none hc hnd)]; exact hc
      · rw [upd_ne (at_ne e hc exo_tup), upd_ne (ne_of_none hc hnd)]; exact hc
theorem ost_oldA (T : AexC X.K C) (I : L2.Inv X pins σ H s) (e : H a = some (exo a C (some dx))) (ed : H dx = some (exd dx fs)) (hl : fs.length ≤ 900) (hno : PySem.W.findIn X.K (.ref C) f = some none) (ry : L2.RelV y u)
    (h : ∀ s' : Shared, L2.Inv X pins σ (upd H dx (exd dx ((f, y) :: fs))) s' → Q () s') : wpAny (model X.prog X.w) A (setAttr (.ref a) f u) Q E s := by
  obtain ⟨cd, hcd, hm, hh⟩ := T.cd
  obtain ⟨t1, ho⟩ := exo_at I.hok e
  obtain ⟨mA, hns, rel⟩ := exd_at I.hok ed
  have hw := within_of rel
  obtain ⟨hp, g, d, t, os⟩ := s
  obtain ⟨oD, _, _, hoD, _⟩ := Heap.Ns1.count hns hw
  refine PySem.W.set_plain I.kIn (od := some oD) ⟨ho, rfl, rfl, hoD⟩ T.sa (osa_old I.kIn ho hns hw (by rw [List.length_map]; omega) hcd hm hh hno fun h' tk' k hn => ?_)
  refine h _ (I.write (x := dx) (e := dx) (by rw [ed]; trivial) (.inl rfl) k ?_ (exd_ok hn (relO_put ry rel)))
  obtain ⟨o, es, ep, q, _⟩ := hn
  exact ⟨o, q⟩
end
def tOstA (K : PySem.W.Frag) (f : Str) (to te : TE) : TS := fun D σ H => te σ H fun y H1 => to σ H1 fun x H2 => ∃ a C, x = .ref a ∧ AexC K C ∧ PySem.W.findIn K (.ref C) f = some none ∧
  ((H2 a = some (exo a C none) ∧ ∀ dx, H2 dx = none → dx ≠ a → D.nx σ (upd (upd H2 dx (exd dx [(f, y)])) a (exo a C (some dx)))) ∨
   ∃ dx fs, H2 a = some (exo a C (some dx)) ∧ H2 dx = some (exd dx fs) ∧ fs.length ≤ 900 ∧ D.nx σ (upd H2 dx (exd dx ((f, y) :: fs))))
theorem ps_ostA {X : Cx} {o e : Expr} {to te : TE} {f : Str} {p' pos : Pos} (ho : PE X o to) (he : PE X e te) (hs : swapsWith e (some (.Attribute o f p')) pos.line X.env = pure false) : PS X (.Assign [.Attribute o f p'] e pos) (tOstA X.K f to te) := ⟨fun pins s σ H D I h => by
  refine plainObj_wpAny_Assign_Attribute (thn (he.run pins s σ H _ I h) fun v s1 ⟨y, H1, I1, r1, q1⟩ => thn (ho.run pins s1 σ H1 _ I1 q1) fun u s2 ⟨x, H2, I2, r2, a, C, ex, T, hno, q⟩ => ?_) hs
  subst ex
  cases (show u = Value.ref a from r2)
  rcases q with ⟨ea, q⟩ | ⟨dx, fs, ea, ed, hl, q⟩
  · exact ost_newA T I2 ea hno r1 fun dx s' n ne J => ⟨σ, _, J, q dx n ne⟩
  · exact ost_oldA T I2 ea ed hl hno r1 fun s' J => ⟨σ, _, J, q⟩⟩
end T
end

section
set_option Elab.async false
set_option linter.all false
set_option maxRecDepth 100000
set_option maxHeartbeats 1000000
namespace T
open PySem PySem.Spec PyProof.Rows L2
section
variable {X : Cx} {pins : List (Addr × Obj)} {σ : L2.St} {H : Hp} {s : Shared} {a C dx : Addr} {f : Str} {y : V} {u : Value} {us : List Value} {fs : List (Str × V)} {E : Value → Shared → Prop} {A : Around}
theorem oinit_okA {Q : Value → Shared → Prop} (T : AexC X.K C) (I : L2.Inv X pins σ H s) (e : H a = some (exo a C none)) (hl : us.length ≤ sizeLine) (h : ∀ s' : Shared, L2.Inv X pins σ H s' → Q .none s') : wpAny (model X.prog X.w) A (call (.builtin "ArithmeticError.__init__") (.ref a :: us)) Q E s := by
  obtain ⟨nm, q, N, bs, bm, sn, sub, ab, col, dd, k0, k1, k2, k3, k5, hC, hm⟩ := T.cls
  obtain ⟨t1, ho⟩ := exo_at I.hok e
  obtain ⟨hp, g, d, t, os⟩ := s
  refine wpAny_call (HandSPX.init_base F.excBase_ArithmeticError (fun Y => (refsAE_facts hm).2.1 Y) (I.kIn C _ hC) ho hl fun h' t2 k hx => ?_)
  have J := I.write (x := a) (e := a) (o := exo a C none) (t' := t) (by rw [e]; trivial) (.inl rfl) k ⟨_, hx⟩ (exo_ok hx)
  have eu : upd H a (exo a C none) = H := funext fun b => by
    by_cases hb : b = a
    · rw [hb, upd_same, e]
    · rw [upd_ne hb]
  rw [eu] at J
  exact h _ J
end
/-- B.__init__(self, ..), B an own class that has no own __init__ -/
def tAeI (K : PySem.W.Frag) (ta : TA) : TE := fun σ H Q => ta σ H fun vs H1 => ∃ a C ws, vs = .ref a :: ws ∧ ws.length ≤ 1000 ∧ AexC K C ∧ H1 a = some (exo a C none) ∧ Q .non H1
theorem pe_aeinit {X : Cx} {e : Expr} {es : List Expr} {ta : TA} {p1 p2 pos : Pos} {pl : Sem Bool} {B : Str} {FE : Addr} (hg : Gl X B) (hm : X.mg B = some (.ref FE)) (hr : PySem.W.readsIn X.K FE (.type "type") = true)
    (hga : PySem.W.specialIn X.K (.ref FE) (Str.ofString "__getattribute__") = some (some (.builtin "type.__getattribute__"))) (hf : PySem.W.findCls X.K (.ref FE) (.type "type") (Str.ofString "__init__") = some (.val (.builtin "ArithmeticError.__init__"))) (ha : PA X (e :: es) ta) (hdb : (B == ("__debug__" : Str)) = false)
    (ht : eval (.Call (.Attribute (.Name B p1) (Str.ofString "__init__") p2) (e :: es) [] pos) X.env = (do
      let ov ← eval (.Name B p1) X.env
      standAt p2.atName
      let (f, first) ← holding [ov] (getMethod ov (Str.ofString "__init__") pl)
      callWith pos f first (backTo pos (starEach (e :: es) X.env)) (backToKw pos (keywordEach [] X.env))))
    (he : starEach (e :: es) X.env = (false, eval e X.env) :: starEach es X.env) (hpl : (backTo pos (starEach es X.env)).any (·.1) = false) :
    PE X (.Call (.Attribute (.Name B p1) (Str.ofString "__init__") p2) (e :: es) [] pos) (tAeI X.K ta) := ⟨fun pins s σ H Q I h => by
  refine PySem.W.methodCall_KW (pl := pl) (ld_glob I hg hm ?_ hdb) ht
  refine PySem.W.method_cls I.kIn hga (PySem.W.cls_value I.kIn hr hf rfl ?_)
  have I1 : L2.Inv X pins σ H { heap := s.heap, gens := s.gens, drawn := s.drawn, toks := s.toks + 1, os := s.os } := I.tok _
  refine callWith_method1 (thn (ha.run pos pins _ σ H _ I1 h) fun ws s2 ⟨vs, H2, I2, r, a, C, vs', ev, hl, T, ea, q⟩ => ?_) he hpl
  subst ev
  match ws, r with
  | u :: us, .cons r1 r2 =>
    cases (show u = Value.ref a from r1)
    exact oinit_okA T I2 ea (by rw [← r2.length, sizeLine_eq]; omega) fun s' J => ⟨.non, H2, J, rfl, q⟩⟩
/-- C(e, ..), C an own exception whose __init__ is walked -/
theorem pmk_aex {X : Cx} {e : Expr} {es : List Expr} {ta : TA} {p pos : Pos} {CX : CXT} {x : Str} {C fI : Addr} {k : Nat} {fd : FuncData} {ps : List Str} {sp : Sp} {ds : List Value} {dvs : List V} (T : AexC X.K C) (iC : PySem.W.findIn X.K (.ref C) (Str.ofString "__init__") = some (some (.ref fI)))
    (tI : PySem.W.typeIn X.K (.ref fI) = some (.type "function")) (F1 : FnOk X.prog X.w X.K X.mg X.base CX k fI fd ps sp) (hr : Room (k + 1) X.A) (hb : L2.Binds X.K fd ps ds) (hd : Vals dvs ds) (hx : Passes CX X fun _ _ _ => False) (hg : Gl X x) (hm : X.mg x = some (.ref C)) (ha : PA X (e :: es) ta)
    (hdb : (x == ("__debug__" : Str)) = false) (he : starEach (e :: es) X.env = (false, eval e X.env) :: starEach es X.env) (hpl : (backTo pos (starEach es X.env)).any (·.1) = false) : PMk X (.Call (.Name x p) (e :: es) [] pos) (tMkO C sp dvs ta) := fun pins s σ H Q I h => by
  obtain ⟨nm, q, N, bs, bm, sn, sub, ab, col, dd, k0, k1, k2, k3, k5, hC, hm'⟩ := T.cls
  refine wpAny_Call_Name_kw (ld_glob I hg hm ?_ hdb)
  refine PySem.W.callWith_K I.ok.mod.kin T.kC (thn (ha.run pos pins s σ H _ I h) fun us s1 ⟨vs, H1, I1, r1, hz, q1⟩ => ⟨I1.kIn, ?_⟩) he hpl
  obtain ⟨hp, g, dr, tk, os⟩ := s1
  have hsz : hp.objs.size ≤ hp.objs.size + 1 := Nat.le_succ _
  have hn := I1.hok.fresh hsz
  have hq := q1 (hp.objs.size + 1) hn
  have kk : ∀ (b : Addr) (o : Obj), hp.get? b = some o → ((hp.push (PySem.W.kdv_tup us)).push (HandSPX.excO C hp.objs.size)).get? b = some o := fun b o e => Heap.get?_push_of_some (HandSPX.excO C hp.objs.size) (Heap.get?_push_of_some (PySem.W.kdv_tup us) e)
  have hget : ((hp.push (PySem.W.kdv_tup us)).push (HandSPX.excO C hp.objs.size)).get? (hp.objs.size + 1) = some (HandSPX.excO C hp.objs.size) := Heap.get?_push_at (by rw [Heap.size_push]) rfl
  have I2 := I1.laid (t' := tk) kk hsz (exo_ok hget)
  have r2 : Vals (V.ref (hp.objs.size + 1) :: (vs ++ dvs)) (Value.ref (hp.objs.size + 1) :: (us ++ ds)) := .cons rfl (r1.append hd)
  have hl : (Value.ref (hp.objs.size + 1) :: us ++ ds).length = ps.length := by
    have e := r2.length
    rw [F1.len _ _ _ _ hq] at e
    exact e.symm
  have hus : us.length ≤ sizeLine := by rw [← r1.length, sizeLine_eq]; omega
  refine wpAny_call (HandSPX.call_own F.excBase_ArithmeticError (fun Y => (refsAE_facts hm').2.1 Y) (I1.kIn C _ hC) (PySem.W.looks_findIn I1.kIn iC) (fun self => PySem.W.bind_fn I1.kIn self tI) hus
    (codeAny_mono (F1.run _ X.stack _ _ ⟨Value.ref (hp.objs.size + 1) :: us, []⟩ (Value.ref (hp.objs.size + 1) :: (us ++ ds)) _ _ (fun _ _ _ => False) (hr.make C us []) (I2.env0.make C us []) (hb _ (Value.ref (hp.objs.size + 1) :: us) I2.kIn hl) r2 hq) fun r s' hq' => ?_))
  cases r with
  | error er => exact hx pins σ _ _ er s' I2 hq'
  | ok fl =>
    cases fl with
    | next => exact False.elim hq'
    | brk => exact False.elim hq'
    | cont => exact False.elim hq'
    | ret u =>
      obtain ⟨v, H2, os2, bare2, un2, hok2, rv, ev, d, fs, ea, ed, hd1, q2⟩ := hq'
      subst ev
      obtain ⟨h2, g2, d2, t2, os'⟩ := s'
      exact ⟨rv, mk_end (raises_own T.exC T.tyC) I1 hsz kk un2 hok2 os2 bare2 ea ed hd1 q2⟩
end T
end

section
set_option Elab.async false
set_option linter.all false
set_option maxRecDepth 100000
set_option maxHeartbeats 1000000
namespace T
open PySem PySem.Spec PyProof.Rows L2
/-! ### try with many handlers, some with a name -/
abbrev Hnd := Value × Option Nat × (Addr → Value → Option Addr → TS)
def endsN (D : Ends) (i : Nat) : Ends := { nx := fun σ' H' => D.nx (σ'.set i none) H', rt := D.rt, bk := fun σ' H' => D.bk (σ'.set i none) H', ct := fun σ' H' => D.ct (σ'.set i none) H' }
def wMix (K : PySem.W.Frag) (Wout : WX) (D : Ends) : List Hnd → WX
  | [] => Wout
  | (c, none, ts) :: r => fun cls d σ H => ∃ b, PySem.W.exmOne K cls c = some b ∧ (b = true → ∀ a, H a = none → ts a cls d D σ H) ∧ (b = false → wMix K Wout D r cls d σ H)
  | (c, some i, ts) :: r => fun cls d σ H => ∃ b, PySem.W.exmOne K cls c = some b ∧ (b = true → ∀ a, H a = none → ts a cls d (endsN D i) (σ.set i (some (.ref a))) H) ∧ (b = false → wMix K Wout D r cls d σ H)
inductive HdMix (X : Cx) : List ExceptHandler → List Hnd → Prop
  | nil : HdMix X [] []
  | one {x : Str} {c : Value} {ts : Addr → Value → Option Addr → TS} {b₀ : Stmt} {suite : List Stmt} {np pos' : Pos} {hds : List ExceptHandler} {l : List Hnd} (hc : Names X x c)
      (hsu : ∀ (a : Addr) (oe : Obj) (cls : Value) (d : Option Addr) (pn : List (Addr × Obj)), Zc cls d oe → (∃ vs, oe.data = .fields vs) → PSs (X.suite a ((a, oe) :: pn)) (b₀ :: suite) (ts a cls d)) (hr : HdMix X hds l) :
      HdMix X (.ExceptHandler (some (.Name x np)) none (b₀ :: suite) pos' :: hds) ((c, none, ts) :: l)
  | as {x n : Str} {c : Value} {i : Nat} {ts : Addr → Value → Option Addr → TS} {b₀ : Stmt} {suite : List Stmt} {np pos' : Pos} {hds : List ExceptHandler} {l : List Hnd} (hi : X.N[i]? = some n) (hln : X.env.kindOf n = some .local) (hloc : Loc X.env.scope n) (hc : Names X x c)
      (hsu : ∀ (a : Addr) (oe : Obj) (cls : Value) (d : Option Addr) (pn : List (Addr × Obj)), Zc cls d oe → (∃ vs, oe.data = .fields vs) → PSs (X.suite a ((a, oe) :: pn)) (b₀ :: suite) (ts a cls d)) (hr : HdMix X hds l) :
      HdMix X (.ExceptHandler (some (.Name x np)) (some n) (b₀ :: suite) pos' :: hds) ((c, some i, ts) :: l)
theorem notFr {h base : Heap} {l : List PySem.Env} {o : Obj} {vs : Array Value} {a : Addr} (ff : h.FunFrames base l) (e : h.get? a = some o) (dd : o.data = .fields vs) : a ∉ l.filterMap (fun x => x.frame) := fun hm => by
  obtain ⟨_, o', e', hnf⟩ := Heap.FunFrames.mem ff hm
  rw [e] at e'
  cases e'
  exact hnf vs dd
theorem ps_try_mix {X : Cx} {body : List Stmt} {h₀ : ExceptHandler} {hds : List ExceptHandler} {l : List Hnd} {pos : Pos} {tb : WX → TS} {Wout : WX} (hs : X.stack = X.env :: X.outer) (hf : X.env.frame = some X.env.locals) (hN : X.N.Nodup) (tk : Takes X Wout)
    (hb : ∀ (W : WX) (pn : List (Addr × Obj)) (xe : Value → Shared → Prop), Takes (X.tr pn xe) W → PassesOwn (model X.prog X.w) X.A X.env xe → PSs (X.tr pn xe) body (tb W)) (hh : HdMix X (h₀ :: hds) l) : PS X (.Try body (h₀ :: hds) [] [] pos) fun D σ H => tb (wMix X.K Wout D l) D σ H := ⟨fun pins s σ H D I h => by
  have ok := I.ok
  have hfr : X.A.frames = some (X.env :: X.outer) := by rw [ok.frames, hs]
  refine wpAny_Try_except (wpAny_mono ((hb (wMix X.K Wout D l) (X.pn ++ pins) (fun e s₁ => wpAny (model X.prog X.w) X.A (noteFrame e X.env) (fun _ s₂ => wpAny (model X.prog X.w) X.A (setFlight e none) (fun _ s₃ => wpAny (model X.prog X.w) X.A (handleBy e X.env (h₀ :: hds)) (SP X pins D) X.xe s₃) X.xe s₂) X.xe s₁) ?_ PassesOwn.looking).run [] s σ H D (I.toTry _) h) (fun f s1 hsp => ?_) fun e s1 he => he)
  · rintro u s' ⟨a, B, sI, pins', σ', H', cls, d, rfl, J', nb, up, sky, na, os, ag, w⟩
    have J := Inv.ofTry J' ok
    have sky' : Sky B (X.env :: X.outer) a (Zc cls d) X.env.locals s'.heap := by
      have z := sky
      rw [show (X.tr (X.pn ++ pins) _).stack = X.stack from rfl, hs] at z
      exact z
    refine Sky.land Zc.steady hfr hf sky' fun h3 fl3 up3 => ?_
    have J3 : L2.Inv X pins σ' H' { heap := h3, gens := s'.gens, drawn := s'.drawn, toks := s'.toks, os := s'.os } := Inv.landed J nb fl3.1 (Heap.UpToSlots.trans up up3) os ag
    obtain ⟨oe3, vs3, he3, hz3, hd3⟩ := HandSPX.FlyingZ.there fl3
    have nfr := notFr fl3.2.2.1 he3 hd3
    have nL : a ≠ X.env.locals := fun z => nfr (List.mem_filterMap.mpr ⟨X.env, List.mem_cons_self, by rw [hf, z]⟩)
    have nF : a ∉ frs X.outer := fun hm => by
      obtain ⟨e, he, q⟩ := List.mem_filterMap.mp hm
      exact nfr (List.mem_filterMap.mpr ⟨e, List.mem_cons_of_mem _ he, q⟩)
    have S3 := Inv.suite J3 he3 hd3 na nL nF
    have go : ∀ {hds' : List ExceptHandler} {l' : List Hnd}, HdMix X hds' l' → wMix X.K Wout D l' cls d σ' H' → wpAny (model X.prog X.w) X.A (handleBy (.ref a) X.env hds') (SP X pins D) X.xe { heap := h3, gens := s'.gens, drawn := s'.drawn, toks := s'.toks, os := s'.os } := by
      intro hds' l' hk
      have LT : PySem.W.Looks (model X.prog X.w) h3 (typeOf (.ref a)) cls := fun A Q E s k q => wpAny_typeOf_ref (k a oe3 he3) (by rw [hz3.1]; exact q)
      have test : ∀ {x : Str} {c : Value} {np : Pos} {Q : Value → Shared → Prop} {E : Value → Shared → Prop}, Names X x c → Q c { heap := h3, gens := s'.gens, drawn := s'.drawn, toks := s'.toks, os := s'.os } → wpAny (model X.prog X.w) (X.A.mark (some (.ref a))) (eval (.Name x np) X.env) Q E { heap := h3, gens := s'.gens, drawn := s'.drawn, toks := s'.toks, os := s'.os } := fun hc q => by
        obtain ⟨hg, hdbg, hc⟩ := hc
        rcases hc with hm | ⟨hm, hv, hnn⟩
        · exact ld_glob S3 hg hm q hdbg
        · exact ld_blt S3 hg hm hv q hnn hdbg
      have nby : Value.ref a ≠ byPass := fun q => nomatch q
      induction hk with
      | nil =>
        intro w
        refine wpAny_handleBy_nil ?_
        obtain ⟨k1, k2, k3, oe, vs, T, oT, ts', he, hz, hd, h1, hr⟩ := id fl3
        refine wpAny_bind (wpAny_field he hd h1 ?_)
        rw [if_neg (by simp)]
        have fin : wpAny (model X.prog X.w) X.A (setFlight (.ref a) X.env.frame) (fun _ s4 => wpAny (model X.prog X.w) X.A (throw (.ref a)) (SP X pins D) X.xe s4) X.xe { heap := h3, gens := s'.gens, drawn := s'.drawn, toks := s'.toks, os := s'.os } := by
          rw [hf]
          refine HandSPX.setFlight_upZ fl3 fun h4 hh4 up4 => wpAny_throw (tk (.ref a) _ ⟨a, B, sI, pins, σ', H', cls, d, rfl, J, nb, Heap.UpToSlots.trans (Heap.UpToSlots.trans up up3) up4, .inr (.inr ?_), na, os, ag, w⟩)
          rw [hs]
          exact hh4
        exact wpAny_bind fin
      | one hc hsu hr ih =>
        rintro ⟨b, hb1, hyes, hno⟩
        refine wpAny_handleBy_cons (codeAny_handlers_test (test hc (PySem.W.Looks.here (PySem.W.exm_one J3.kIn LT hb1) ?_))) nby
        cases b with
        | false => exact ih (hno rfl)
        | true =>
          refine codeAny_handlers_suite (HandSPX.lands_againZ fl3 fun h4 fl4 up4 => ?_)
          have J4 : L2.Inv X pins σ' H' { heap := h4, gens := s'.gens, drawn := s'.drawn, toks := s'.toks, os := s'.os } := Inv.landed J nb fl4.1 (Heap.UpToSlots.trans (Heap.UpToSlots.trans up up3) up4) os ag
          obtain ⟨oe4, vs4, he4, hz4, hd4⟩ := HandSPX.FlyingZ.there fl4
          have S4 := Inv.suite J4 he4 hd4 na nL nF
          refine wpAny_mono ((hsu a oe4 cls d (X.pn ++ pins) hz4 ⟨vs4, hd4⟩).run [] _ σ' H' D S4 (hyes rfl a na)) (fun f s6 hsp => ?_) fun _ _ z => z.elim
          cases f with
          | next =>
            obtain ⟨σ6, H6, S6, q6⟩ := hsp
            exact ⟨σ6, H6, Inv.unsuite S6 ok, q6⟩
          | brk =>
            obtain ⟨σ6, H6, S6, q6⟩ := hsp
            exact ⟨σ6, H6, Inv.unsuite S6 ok, q6⟩
          | cont =>
            obtain ⟨σ6, H6, S6, q6⟩ := hsp
            exact ⟨σ6, H6, Inv.unsuite S6 ok, q6⟩
          | ret u =>
            obtain ⟨v6, σ6, H6, S6, r6, q6⟩ := hsp
            exact ⟨v6, σ6, H6, Inv.unsuite S6 ok, r6, q6⟩
      | «as» hi hln hloc hc hsu hr ih =>
        rename_i x n c i ts b₀ suite np pos' hds2 l2
        rintro ⟨b, hb1, hyes, hno⟩
        refine wpAny_handleBy_cons (codeAny_handlers_test (test hc (PySem.W.Looks.here (PySem.W.exm_one J3.kIn LT hb1) ?_))) nby
        cases b with
        | false => exact ih (hno rfl)
        | true =>
          refine codeAny_handlers_suite_as (HandSPX.lands_againZ fl3 fun h4 fl4 up4 => ?_)
          have J4 : L2.Inv X pins σ' H' { heap := h4, gens := s'.gens, drawn := s'.drawn, toks := s'.toks, os := s'.os } := Inv.landed J nb fl4.1 (Heap.UpToSlots.trans (Heap.UpToSlots.trans up up3) up4) os ag
          obtain ⟨oe4, vs4, he4, hz4, hd4⟩ := HandSPX.FlyingZ.there fl4
          have S4 := Inv.suite J4 he4 hd4 na nL nF
          refine store_ok (X := X.suite a ((a, oe4) :: (X.pn ++ pins))) (v := .ref a) S4 hN hi hloc rfl (fun s5 S5 => wpAny_mono ((hsu a oe4 cls d (X.pn ++ pins) hz4 ⟨vs4, hd4⟩).run [] s5 (σ'.set i (some (.ref a))) H' (endsN D i) S5 (hyes rfl a na)) (fun f s6 hsp => ?_) fun _ _ z => z.elim) (.inr hln)
          cases f with
          | next =>
            obtain ⟨σ6, H6, S6, q6⟩ := hsp
            exact gone_ok (Inv.unsuite S6 ok) hN hi hln fun s7 J7 => ⟨σ6.set i none, H6, J7, q6⟩
          | brk =>
            obtain ⟨σ6, H6, S6, q6⟩ := hsp
            exact gone_ok (Inv.unsuite S6 ok) hN hi hln fun s7 J7 => ⟨σ6.set i none, H6, J7, q6⟩
          | cont =>
            obtain ⟨σ6, H6, S6, q6⟩ := hsp
            exact gone_ok (Inv.unsuite S6 ok) hN hi hln fun s7 J7 => ⟨σ6.set i none, H6, J7, q6⟩
          | ret u =>
            obtain ⟨v6, σ6, H6, S6, r6, q6⟩ := hsp
            exact gone_ok (Inv.unsuite S6 ok) hN hi hln fun s7 J7 => ⟨v6, σ6.set i none, H6, J7, r6, q6⟩
    exact go hh w
  · cases f with
    | next =>
      obtain ⟨σ', H', J', q⟩ := hsp
      exact wpAny_execs_nil ⟨σ', H', Inv.ofTry J' ok, q⟩
    | brk =>
      obtain ⟨σ', H', J', q⟩ := hsp
      exact ⟨σ', H', Inv.ofTry J' ok, q⟩
    | cont =>
      obtain ⟨σ', H', J', q⟩ := hsp
      exact ⟨σ', H', Inv.ofTry J' ok, q⟩
    | ret u =>
      obtain ⟨v, σ', H', J', r, q⟩ := hsp
      exact ⟨v, σ', H', Inv.ofTry J' ok, r, q⟩⟩
end T
end

section
set_option Elab.async false
set_option linter.all false
set_option maxRecDepth 100000
set_option maxHeartbeats 1000000
namespace T
open PySem PySem.Spec PyProof.Rows L2
/-! ### own exceptions: made and raised -/
def spIni (K : PySem.W.Frag) (n : Nat) (qs : List Str) : Sp := fun vs H Q _ => ∃ a C ws, vs = .ref a :: ws ∧ ws.length = n ∧ AexC K C ∧ (∀ f ∈ qs, PySem.W.findIn K (.ref C) f = some none) ∧ H a = some (exo a C none) ∧
  ∀ dx H', H dx = none → dx ≠ a → H' a = some (exo a C (some dx)) → H' dx = some (exd dx (qs.reverse.zip ws.reverse)) → (∀ b, b ≠ a → b ≠ dx → H' b = H b) → Q .non H'
section
variable {P : Program} {w : World} {K : PySem.W.Frag} {mg : Str → Option Value} {base : Heap}
theorem ini1 {x qual q : Str} {st : Stmt} {f : Addr} {fd : FuncData} (G : Fun K x qual st f fd) (S : FnScope ["self", q] ["self", q] (defScope st))
    (hb : ∀ (cdv : Value) (A : Around) (outer : List PySem.Env) (s : Shared) (H : Hp) (E : XK), PSs (cxT P w K mg base ["self", q] qual st f cdv A outer s H E) (defBody st) (tSeq (tDrop (tAeI K (tCons (tVar 0) (tCons (tVar 1) tNil)))) (tOstA K q (tVar 0) (tVar 1)))) :
    FnOk P w K mg base (L2.CX P w) 1 f fd ["self", q] (spIni K 1 [q]) := by
  refine G.okX S (fun vs H Q E h => ?_) fun cdv A outer s H vs Q E hr h => ⟨_, hb cdv A outer s H E, ?_⟩
  · obtain ⟨a, C, ws, rfl, hl, _⟩ := h
    simp [hl]
  · obtain ⟨a, C, ws, rfl, hl, T, hq, ea, k⟩ := h
    obtain ⟨y, rfl⟩ : ∃ y, ws = [y] := by
      match ws, hl with
      | [y], _ => exact ⟨y, rfl⟩
    refine ⟨_, rfl, _, rfl, a, C, [y], rfl, by simp, T, ea, _, rfl, _, rfl, a, C, rfl, T, hq q (List.mem_singleton.mpr rfl), .inl ⟨ea, fun dx n ne => ?_⟩⟩
    refine k dx _ n ne upd_same ?_ fun b h1 h2 => by rw [upd_ne h1, upd_ne h2]
    rw [upd_ne ne, upd_same]
    rfl
theorem ini2 {x qual q r : Str} {st : Stmt} {f : Addr} {fd : FuncData} (G : Fun K x qual st f fd) (S : FnScope ["self", q, r] ["self", q, r] (defScope st))
    (hb : ∀ (cdv : Value) (A : Around) (outer : List PySem.Env) (s : Shared) (H : Hp) (E : XK), PSs (cxT P w K mg base ["self", q, r] qual st f cdv A outer s H E) (defBody st) (tSeq (tDrop (tAeI K (tCons (tVar 0) (tCons (tVar 1) (tCons (tVar 2) tNil))))) (tSeq (tOstA K q (tVar 0) (tVar 1)) (tOstA K r (tVar 0) (tVar 2))))) :
    FnOk P w K mg base (L2.CX P w) 1 f fd ["self", q, r] (spIni K 2 [q, r]) := by
  refine G.okX S (fun vs H Q E h => ?_) fun cdv A outer s H vs Q E hr h => ⟨_, hb cdv A outer s H E, ?_⟩
  · obtain ⟨a, C, ws, rfl, hl, _⟩ := h
    simp [hl]
  · obtain ⟨a, C, ws, rfl, hl, T, hq, ea, k⟩ := h
    obtain ⟨y, z, rfl⟩ : ∃ y z, ws = [y, z] := by
      match ws, hl with
      | [y, z], _ => exact ⟨y, z, rfl⟩
    refine ⟨_, rfl, _, rfl, _, rfl, a, C, [y, z], rfl, by simp, T, ea, _, rfl, _, rfl, a, C, rfl, T, hq q (by simp), .inl ⟨ea, fun dx n ne => ?_⟩⟩
    refine ⟨_, rfl, _, rfl, a, C, rfl, T, hq r (by simp), .inr ⟨dx, [(q, y)], upd_same, by rw [upd_ne ne, upd_same], by simp, ?_⟩⟩
    refine k dx _ n ne (by rw [upd_ne ne.symm, upd_same]) ?_ fun b h1 h2 => by rw [upd_ne h2, upd_ne h1, upd_ne h2]
    rw [upd_same]
    rfl
end
def mRaise (c : Cid) (n : Nat) (qs : List Str) (ms : Ro → R (List D)) : Ro → RS := fun ρ => bS (ms ρ) fun ds ρ1 => if ds.length = n ∧ qs.length = n ∧ n ≤ 1000 then .exc ⟨c, qs.reverse, fzs ds.reverse⟩ ρ1 else .bad
theorem Reps.rev {K : PySem.W.Frag} {cA : Cid → Addr} {F : FP} {H : Hp} : ∀ {ds : List D} {vs : List V} {A : FP}, Reps K cA F H ds vs A → Reps K cA F H ds.reverse vs.reverse A
  | [], _, _, h => by cases h; rfl
  | d :: ds, _, _, h => by
    obtain ⟨v, vs', A1, A2, rfl, s, r, rs⟩ := h
    rw [List.reverse_cons, List.reverse_cons]
    exact (Reps.append rs.rev (Reps.one r) fun b x y => s.d b y x).move (fun _ x => x) (fun _ _ _ e => e) fun b x => x.elim (s.r b) (s.l b)
theorem fzs_rev : ∀ {ds : List D}, fzs ds.reverse = (fzs ds).reverse
  | [] => rfl
  | d :: ds => by rw [List.reverse_cons, fzs_app, fzs_rev (ds := ds)]; simp [fzs]
section
variable {X : Cx} {L : Lc} {p pos pos' : Pos} {x : Str} {e : Expr} {es : List Expr} {ms : Ro → R (List D)} {c : Cid} {fI : Addr} {fd : FuncData} {ps qs : List Str} {n : Nat}
theorem ds_raise (tc : AexC X.K (L.cA c)) (iC : PySem.W.findIn X.K (.ref (L.cA c)) (Str.ofString "__init__") = some (some (.ref fI))) (tI : PySem.W.typeIn X.K (.ref fI) = some (.type "function")) (F1 : FnOk X.prog X.w X.K X.mg X.base (L2.CX X.prog X.w) 1 fI fd ps (spIni X.K n qs)) (hr : Room 2 X.A) (hb : L2.Binds X.K fd ps [])
    (hq : ∀ f ∈ qs, PySem.W.findIn X.K (.ref (L.cA c)) f = some none) (tk : Takes X L.W) (hc : X.calm = true) (hm : X.mg x = some (.ref (L.cA c))) (ha : DA X L (e :: es) ms) (hg : Gl X x := by rfl) (hdb : (x == ("__debug__" : Str)) = false := by decide) (he : starEach (e :: es) X.env = (false, eval e X.env) :: starEach es X.env := by rfl) (hpl : (backTo pos' (starEach es X.env)).any (·.1) = false := by rfl) :
    DS X L (.Raise (some (.Call (.Name x p) (e :: es) [] pos')) none pos) (mRaise c n qs ms) := ⟨ps_to (ps_raise hc tk (pmk_aex tc iC tI F1 hr hb .nil (fun pins σ H s er s' _ h => by obtain ⟨_, _, _, _, _, _, _, _, _, _, _, _, z⟩ := h; exact z.elim) hg hm ha.pa hdb he hpl)) fun D σ H h => by
  refine lftS_bind h fun vs H1 F1 A1 B1 ds ρ1 st dj en q p => ?_
  split at p
  · rename_i hn
    obtain ⟨h1, h2, h3⟩ := hn
    have lv : vs.length = n := by rw [← q.len]; exact h1
    refine ⟨by omega, fun a na => ⟨a, L.cA c, vs, by rw [List.append_nil], lv, tc, hq, upd_same, fun dx H' nd ne e1 e2 e3 => ⟨rfl, dx, _, e1, e2, ?_, ?_⟩⟩⟩
    · rw [upd_ne ne] at nd
      exact nd
    · rw [upd_ne ne] at nd
      have eH : upd (del H' a) dx (.xd (qs.reverse.zip vs.reverse)) = upd H1 dx (.xd (qs.reverse.zip vs.reverse)) := funext fun b => by
        by_cases hb : b = dx
        · rw [hb, upd_same, upd_same]
        · rw [upd_ne hb, upd_ne hb]
          by_cases hba : b = a
          · rw [hba, na]; exact del_same
          · rw [del_ne hba, e3 b hba hb, upd_ne hba]
      rw [eH]
      have fr1 : Step F1 (un A1 B1) H1 (un F1 B1) A1 H1 := ⟨fun _ _ e _ => e, fun _ e => e, fun _ y => .inl y, fun b y => y.imp id fun y => .inl (.inr y), fun b y => .inl (.inl y),
        ⟨fun b y z => z.elim (st.dj b (.inl y)) (dj b y), fun b y => y.elim (fun y => st.dom b (y.imp id .inr)) fun y => st.dom b (.inr (.inl y)), fun b vs y => st.nt b vs (.inl y)⟩⟩
      have s1 := fr1.trans (newF_step (o := .xd (qs.reverse.zip vs.reverse)) fr1.sta nd)
      have kp : ∀ b o, H1 b = some o → upd H1 dx (.xd (qs.reverse.zip vs.reverse)) b = some o := new_keep nd
      refine p _ _ σ _ _ _ s1 (en.move (fun _ y => .inl (.inl y)) (fun b o _ e => kp b o e) fun _ y => y) ⟨rfl, dx, vs.reverse, rfl, upd_same, by simp [h2, lv], .inr rfl, ?_⟩
      have r : Reps X.K L.cA (un F1 B1) H1 (fzs ds.reverse) vs.reverse no := q.rev.fz (fun _ y => .inr y) fun _ y => .inl y
      exact r.move (fun _ y => .inl y) (fun b o _ e => kp b o e) fun _ y => y
  · exact p.elim⟩
end
end T
end

section
set_option Elab.async false
set_option linter.all false
set_option maxRecDepth 100000
set_option maxHeartbeats 1000000
namespace T
open PySem PySem.Spec PyProof.Rows L2
/-! ### try .. except -/
theorem ExcR.step {K : Frag} {cA : Cid → Addr} {F F' : FP} {H H' : Hp} {x : Exn} {c : Value} {dd : Option Addr} (h : ExcR K cA F H x c dd) (hF : ∀ b, F b → F' b) (k : ∀ b o, F b → H b = some o → H' b = some o) : ExcR K cA F' H' x c dd := by
  obtain ⟨e, d, vs, e1, e2, e3, e4, r⟩ := h
  exact ⟨e, d, vs, e1, k d _ e4 e2, e3, hF d e4, r.move hF (fun b o z q => k b o (z.elim id False.elim) q) fun _ z => z⟩
theorem Step.kF {F A F' A' : FP} {H H' : Hp} (st : Sta F A H) (s : Step F A H F' A' H') : ∀ b o, F b → H b = some o → H' b = some o := fun b o f e => s.keep b o e fun a => st.dj b a f
section
variable {α β γ δ : Type}
def lftX (K : Frag) (L : Lc) (rel : Rel α β) (x : Exn) (c : Value) (dd : Option Addr) (m : Ro → R α) : L2.St → Hp → (β → Hp → Prop) → Prop := fun σ H Q =>
  ∃ ρ F A, Sta F A H ∧ EnvL K L F H ρ σ A ∧ ExcR K L.cA F H x c dd ∧ Post K L rel F A H σ Q (m ρ)
variable {K : Frag} {L : Lc} {rel : Rel α β} {rel' : Rel γ δ} {m : Ro → R α} {f : α → Ro → R γ} {σ : L2.St} {Q : δ → Hp → Prop} {Q' : β → Hp → Prop} {x : Exn} {c : Value} {dd : Option Addr}
theorem lftX_bind {H : Hp} (h : lftX K L rel' x c dd (fun ρ => (m ρ).bind f) σ H Q)
    (k : ∀ y H1 F1 A1 B a ρ1, Sta F1 (un A1 B) H1 → Dj A1 B → EnvL K L F1 H1 ρ1 σ A1 → rel K L.cA F1 H1 a y B → ExcR K L.cA F1 H1 x c dd → Post K L rel' F1 (un A1 B) H1 σ Q (f a ρ1) → Q' y H1) : lftX K L rel x c dd m σ H Q' := by
  obtain ⟨ρ, F, A, st, en, ex, p⟩ := h
  refine ⟨ρ, F, A, st, en, ex, ?_⟩
  change Post K L rel' F A H σ Q ((m ρ).bind f) at p
  cases e : m ρ with
  | bad => rw [e] at p; exact p
  | ok a ρ1 =>
    rw [e] at p
    intro y H1 F1 A1 B s d en1 q
    exact k y H1 F1 A1 B a ρ1 s.sta d en1 q (ex.step s.fr (Step.kF st s)) (p.step s)
  | exc x ρ1 => rw [e] at p; exact p
theorem lftX_rest {H0 : Hp} {F0 A0 B0 : FP} {ρ0 : Ro} (st : Sta F0 (un A0 B0) H0) (d0 : Dj A0 B0) (en : EnvL K L F0 H0 ρ0 σ A0) (ex : ExcR K L.cA F0 H0 x c dd) (p : Post K L rel' F0 (un A0 B0) H0 σ Q ((m ρ0).bind f))
    (k : ∀ y H1 F1 A1 B a ρ1, Sta F1 (un (un A1 B) B0) H1 → Dj A1 B → Dj (un A1 B) B0 → EnvL K L F1 H1 ρ1 σ A1 → rel K L.cA F1 H1 a y B → (∀ b, F0 b → F1 b) → (∀ b o, F0 b ∨ B0 b → H0 b = some o → H1 b = some o) → Post K L rel' F1 (un (un A1 B) B0) H1 σ Q (f a ρ1) → Q' y H1) : lftX K L rel x c dd m σ H0 Q' := by
  obtain ⟨ρ, F, A, st', en', p'⟩ := lft_rest st d0 en p k
  refine ⟨ρ0, F0, A0, st.sub fun b x => .inl x, en, ex, ?_⟩
  have s0 := Step.refl st
  cases e : m ρ0 with
  | bad => rw [e] at p; exact p
  | ok a ρ1 =>
    rw [e] at p
    intro y H1 F1 A1 B s d en1 q
    obtain ⟨s1, d1, kb⟩ := s0.seq d0 s
    exact k y H1 F1 A1 B a ρ1 s1.sta d d1 en1 q s.fr kb (p.step s1)
  | exc x ρ1 =>
    rw [e] at p
    intro c dd H1 F1 A1 s en1 q
    obtain ⟨s1, d1, kb⟩ := s0.seq d0 s
    exact p c dd H1 F1 A1 (s1.sub fun b x => .inl x) en1 q
end
structure DEx (X : Cx) (L : Lc) (x : Exn) (c : Value) (dd : Option Addr) (e : Expr) (m : Ro → R D) : Prop where
  pe : PE X e (lftX X.K L rE x c dd m)
structure DAx (X : Cx) (L : Lc) (x : Exn) (c : Value) (dd : Option Addr) (es : List Expr) (m : Ro → R (List D)) : Prop where
  pa : PA X es (lftX X.K L rA x c dd m)
def lftSX (K : Frag) (L : Lc) (x : Exn) (c : Value) (dd : Option Addr) (m : Ro → RS) : TS := fun D σ H => ∃ ρ F A, Sta F A H ∧ EnvL K L F H ρ σ A ∧ ExcR K L.cA F H x c dd ∧ PostS K L F A H D (m ρ)
structure DBx (X : Cx) (L : Lc) (x : Exn) (c : Value) (dd : Option Addr) (sts : List Stmt) (m : Ro → RS) : Prop where
  ps : PSs X sts (lftSX X.K L x c dd m)
theorem lftSX_bind {α β : Type} {K : Frag} {L : Lc} {rel : Rel α β} {m : Ro → R α} {f : α → Ro → RS} {σ : L2.St} {H : Hp} {D : Ends} {Q' : β → Hp → Prop} {x : Exn} {c : Value} {dd : Option Addr} (h : lftSX K L x c dd (fun ρ => bS (m ρ) f) D σ H)
    (k : ∀ y H1 F1 A1 B a ρ1, Sta F1 (un A1 B) H1 → Dj A1 B → EnvL K L F1 H1 ρ1 σ A1 → rel K L.cA F1 H1 a y B → PostS K L F1 (un A1 B) H1 D (f a ρ1) → Q' y H1) : lftX K L rel x c dd m σ H Q' := by
  obtain ⟨ρ, F, A, st, en, ex, p⟩ := h
  obtain ⟨ρ', F', A', st', en', p'⟩ := lftS_bind (m := m) (f := f) (K := K) (L := L) ⟨ρ, F, A, st, en, p⟩ k
  refine ⟨ρ, F, A, st, en, ex, ?_⟩
  change PostS K L F A H D (bS (m ρ) f) at p
  cases e : m ρ with
  | bad => rw [e] at p; exact p
  | ok a ρ1 =>
    rw [e] at p
    intro y H1 F1 A1 B s d en1 q
    exact k y H1 F1 A1 B a ρ1 s.sta d en1 q (PostS.step s p)
  | exc x ρ1 =>
    rw [e] at p
    exact fun c dd H1 F1 A1 s en1 q => p c dd σ H1 F1 A1 s en1 q
section
variable {X : Cx} {L : Lc} {x : Exn} {c : Value} {dd : Option Addr} {e : Expr} {es : List Expr} {m : Ro → R D} {ms : Ro → R (List D)} {pos : Pos}
theorem dex_of (h : DE X L e m) : DEx X L x c dd e m := ⟨pe_to h.pe fun σ H Q ⟨ρ, F, A, st, en, _, p⟩ => ⟨ρ, F, A, st, en, p⟩⟩
theorem dax_nil : DAx X L x c dd [] mNil := ⟨pa_to pa_nil fun σ H Q ⟨ρ, F, A, st, en, _, p⟩ => p.val (A1 := A) st (fun b x => x) en rfl⟩
theorem dax_cons (ha : DEx X L x c dd e m) (hr : DAx X L x c dd es ms) (hs : starEach (e :: es) X.env = (false, eval e X.env) :: starEach es X.env := by rfl) : DAx X L x c dd (e :: es) (mCons m ms) := ⟨pa_to (pa_cons ha.pe hr.pa hs) fun σ H Q h => by
  refine lftX_bind h fun v H1 F1 A1 B1 d ρ1 st dj en q ex p => ?_
  refine lftX_rest st dj en ex p fun vs H2 F2 A2 B2 ds ρ2 st2 dj2 dj2' en2 q2 fr kb p2 => ?_
  exact p2.ret (A1 := A2) (B := un B1 B2) st2 (fun b x => x.elim (fun x => .inl (.inl x)) fun x => x.elim .inr fun x => .inl (.inr x)) (fun b x y => y.elim (dj2' b (.inl x)) (dj2 b x)) en2 ⟨v, vs, B1, B2, rfl, ⟨fun b x => .inl x, fun b x => .inr x, fun b x y => dj2' b (.inr y) x⟩, q.move fr kb fun _ x => x, q2⟩⟩
theorem dex_tup {x1} (h : DAx X L x c dd es ms) : DEx X L x c dd (.Tuple es x1 pos) (mN oTup ms) := ⟨pe_to (pe_tup h.pa) fun σ H Q h => by
  refine lftX_bind h fun vs H1 F1 A1 B1 ds ρ1 st dj en q ex p => ?_
  unfold oTup at p
  split at p
  · rename_i z
    refine ⟨by rw [← q.len]; exact of_decide_eq_true z, fun l np => end_tup st dj en q np p⟩
  · exact p.elim⟩
theorem dbx_ret (h : DEx X L x c dd e m) : DBx X L x c dd [.Return (some e) pos] (mRet m) := ⟨pss_one (ps_to (ps_ret h.pe) fun D σ H h => by
  refine lftSX_bind h fun y H1 F1 A1 B a ρ1 st dj en q p => ?_
  exact p y σ H1 F1 A1 B (Step.refl st) dj en q)⟩
theorem dbx_set (i : Nat) {y : Str} {pos' : Pos} (hN : X.N.Nodup) (he : DEx X L x c dd e m) (hi : X.N[i]? = some y := by rfl) (hx : Loc X.env.scope y := by first | exact Or.inl rfl | exact Or.inr rfl) (hs : swapsWith e (some (.Name y pos')) pos.line X.env = pure false := by rfl) (hf : X.fn y = true ∨ X.env.scope.names.lookup y = some .local := by first | exact .inl rfl | exact .inr rfl) (hp : unpin L i = true := by rfl) :
    DBx X L x c dd [.Assign [.Name y pos'] e pos] (mAsg m (gSet i)) := ⟨pss_one (ps_to (ps_set hN hi hx he.pe hs hf) fun D σ H h => by
  refine lftSX_bind h fun y H1 F1 A1 B d ρ1 st dj en q p => ?_
  exact nxP.here p st (fun _ x => x) (en.put hp q dj))⟩
theorem dbx_of {sts : List Stmt} {m : Ro → RS} (h : DB X L sts m) : DBx X L x c dd sts m := ⟨pss_to h.ps fun D σ H ⟨ρ, F, A, st, en, _, p⟩ => ⟨ρ, F, A, st, en, p⟩⟩
end
/-- e.f of the error in hand -/
def mXf (x : Exn) (f : Str) : Ro → R D := fun ρ => match look f x.fs x.vs with
  | some d => .ok d ρ
  | none => .bad
theorem dex_xf {X : Cx} {L : Lc} {a : Addr} {oe : Obj} {cls : Value} {d : Option Addr} {pn : List (Addr × Obj)} {x : Exn} {n y : Str} {pos p : Pos} (i : Nat) (hx : XfC X.K (L.cA x.c)) (hf : PySem.W.findIn X.K (.ref (L.cA x.c)) n = some none) (hz : Zc cls d oe) (hd : ∃ vs, oe.data = .fields vs)
    (hp : (i, V.ref a) ∈ L.pin) (hN : X.N[i]? = some y := by rfl) (hv : Vis X.env.scope y := by first | exact Or.inl rfl | exact Or.inr (Or.inl rfl) | exact Or.inr (Or.inr rfl)) (hdb : (y == ("__debug__" : Str)) = false := by decide) (hcd : (y == ("__classdict__" : Str)) = false := by decide)
    (ha : attributeBase (.Name y p) n (X.suite a ((a, oe) :: pn)).env (eval (.Name y p) (X.suite a ((a, oe) :: pn)).env) = eval (.Name y p) (X.suite a ((a, oe) :: pn)).env := by rfl) :
    DEx (X.suite a ((a, oe) :: pn)) L x cls d (.Attribute (.Name y p) n pos) (mXf x n) := ⟨pe_to (pe_xf hx hf hz hd (pe_var hN hv hdb hcd) ha) fun σ H Q ⟨ρ, F, A, st, en, ex, po⟩ => by
  refine ⟨.ref a, en.pin _ hp, rfl, ?_⟩
  obtain ⟨e, dd, vs, e1, e2, e3, e4, r⟩ := ex
  unfold mXf at po
  split at po
  · rename_i v el
    obtain ⟨w, A1, e5, z, q⟩ := r.look el
    exact ⟨e, dd, _, w, e1, e2, e5, po.val (A1 := A) st (fun _ x => x) en (q.move (fun _ x => x) (fun _ _ _ e => e) z)⟩
  · exact po.elim⟩
/-! handlers -/
structure Hx where
  mt : Cid → Option Bool
  i : Option Nat
  m : Exn → Ro → RS
def hAfter (i : Nat) : RS → RS
  | .nx ρ => .nx (ρ.set i none)
  | .bk ρ => .bk (ρ.set i none)
  | .ct ρ => .ct (ρ.set i none)
  | .ret d ρ => .ret d ρ
  | _ => .bad
def hPlain : RS → RS
  | .exc _ _ => .bad
  | r => r
def handle : List Hx → Exn → Ro → RS
  | [], x, ρ => .exc x ρ
  | h :: hs, x, ρ => match h.mt x.c with
    | none => .bad
    | some false => handle hs x ρ
    | some true => match h.i with
      | none => hPlain (h.m x ρ)
      | some i => if i < ρ.length then hAfter i (h.m x (ρ.set i none)) else .bad
def mTry (mb : Ro → RS) (hs : List Hx) : Ro → RS := fun ρ => match mb ρ with
  | .exc x ρ1 => handle hs x ρ1
  | r => r
abbrev Lc.su (L : Lc) : Lc := ⟨L.cA, noW, L.pin⟩
abbrev Lc.suAs (L : Lc) (i : Nat) (a : Addr) : Lc := ⟨L.cA, noW, (i, .ref a) :: L.pin⟩
inductive HdD (X : Cx) (L : Lc) : List ExceptHandler → List Hx → List Hnd → Prop
  | nil : HdD X L [] [] []
  | one {xn : Str} {c : Value} {mt : Cid → Option Bool} {m : Exn → Ro → RS} {b₀ : Stmt} {suite : List Stmt} {np pos' : Pos} {hds : List ExceptHandler} {hs : List Hx} {l : List Hnd} (hc : Names X xn c) (hm : ∀ c' b, mt c' = some b → PySem.W.exmOne X.K (.ref (L.cA c')) c = some b)
      (hsu : ∀ (a : Addr) (oe : Obj) (cls : Value) (d : Option Addr) (pn : List (Addr × Obj)) (x : Exn), mt x.c = some true → Zc cls d oe → (∃ vs, oe.data = .fields vs) → DBx (X.suite a ((a, oe) :: pn)) L.su x cls d (b₀ :: suite) (m x)) (hr : HdD X L hds hs l) :
      HdD X L (.ExceptHandler (some (.Name xn np)) none (b₀ :: suite) pos' :: hds) (⟨mt, none, m⟩ :: hs) ((c, none, fun a cls d D σ H => ∃ x, mt x.c = some true ∧ lftSX X.K L.su x cls d (m x) D σ H) :: l)
  | as {xn n : Str} {c : Value} (i : Nat) {mt : Cid → Option Bool} {m : Exn → Ro → RS} {b₀ : Stmt} {suite : List Stmt} {np pos' : Pos} {hds : List ExceptHandler} {hs : List Hx} {l : List Hnd} (hi : X.N[i]? = some n) (hln : X.env.kindOf n = some .local) (hloc : Loc X.env.scope n) (hp : unpin L i = true) (hc : Names X xn c)
      (hm : ∀ c' b, mt c' = some b → PySem.W.exmOne X.K (.ref (L.cA c')) c = some b)
      (hsu : ∀ (a : Addr) (oe : Obj) (cls : Value) (d : Option Addr) (pn : List (Addr × Obj)) (x : Exn), mt x.c = some true → Zc cls d oe → (∃ vs, oe.data = .fields vs) → DBx (X.suite a ((a, oe) :: pn)) (L.suAs i a) x cls d (b₀ :: suite) (m x)) (hr : HdD X L hds hs l) :
      HdD X L (.ExceptHandler (some (.Name xn np)) (some n) (b₀ :: suite) pos' :: hds) (⟨mt, some i, m⟩ :: hs) ((c, some i, fun a cls d D σ H => ∃ x, mt x.c = some true ∧ lftSX X.K (L.suAs i a) x cls d (m x) D σ H) :: l)
theorem pss_ex {X : Cx} {sts : List Stmt} {α : Type} {q : α → Prop} {t : α → TS} (h : ∀ x, q x → PSs X sts (t x)) : PSs X sts fun D σ H => ∃ x, q x ∧ t x D σ H := ⟨fun pins s σ H D I ⟨x, qx, z⟩ => (h x qx).run pins s σ H D I z⟩
theorem HdD.mix {X : Cx} {L : Lc} {hds : List ExceptHandler} {hs : List Hx} {l : List Hnd} (h : HdD X L hds hs l) : HdMix X hds l := by
  induction h with
  | nil => exact .nil
  | one hc hm hsu hr ih => exact .one hc (fun a oe cls d pn hz hv => pss_ex fun x hx => (hsu a oe cls d pn x hx hz hv).ps) ih
  | «as» i hi hln hloc hp hc hm hsu hr ih => exact .as hi hln hloc hc (fun a oe cls d pn hz hv => pss_ex fun x hx => (hsu a oe cls d pn x hx hz hv).ps) ih
end T
end

section
set_option Elab.async false
set_option linter.all false
set_option maxRecDepth 100000
set_option maxHeartbeats 1000000
namespace T
open PySem PySem.Spec PyProof.Rows L2
theorem getElem?_set_ne' {α : Type} {l : List α} {i j : Nat} {x : α} (h : j ≠ i) : (l.set i x)[j]? = l[j]? := by
  rw [List.getElem?_set]
  split
  · rename_i e; exact absurd e.symm h
  · rfl
section
variable {K : Frag} {L : Lc} {F A : FP} {H : Hp} {D : Ends}
theorem EnvL.unset {ρ : Ro} {σ : L2.St} {i : Nat} {o : Option V} (en : EnvL K L F H ρ σ A) (hp : unpin L i = true) : EnvL K L F H (ρ.set i none) (σ.set i o) A := ⟨en.env.drop, fun p h => by
  have := List.all_eq_true.mp hp p h
  rw [getElem?_set_ne' (by simpa using this)]
  exact en.pin p h⟩
theorem PostS.suite0 {r : RS} (h : PostS K L F A H D (hPlain r)) : PostS K L.su F A H D r := by
  cases r with
  | bad => exact h
  | nx ρ => exact fun σ' H' F' A' s en => h σ' H' F' A' s ⟨en.env, en.pin⟩
  | bk ρ => exact fun σ' H' F' A' s en => h σ' H' F' A' s ⟨en.env, en.pin⟩
  | ct ρ => exact fun σ' H' F' A' s en => h σ' H' F' A' s ⟨en.env, en.pin⟩
  | ret d ρ => exact fun v σ' H' F' A' B s dj en q => h v σ' H' F' A' B s dj ⟨en.env, en.pin⟩ q
  | exc x ρ => exact h.elim
theorem PostS.suiteAs {r : RS} {i : Nat} {a : Addr} (hp : unpin L i = true) (h : PostS K L F A H D (hAfter i r)) : PostS K (L.suAs i a) F A H (endsN D i) r := by
  have low : ∀ {F' A' : FP} {H' : Hp} {ρ' : Ro} {σ' : L2.St}, EnvL K (L.suAs i a) F' H' ρ' σ' A' → EnvL K L F' H' ρ' σ' A' := fun en => ⟨en.env, fun p h => en.pin p (List.mem_cons_of_mem _ h)⟩
  cases r with
  | bad => exact h
  | nx ρ => exact fun σ' H' F' A' s en => h _ H' F' A' s ((low en).unset hp)
  | bk ρ => exact fun σ' H' F' A' s en => h _ H' F' A' s ((low en).unset hp)
  | ct ρ => exact fun σ' H' F' A' s en => h _ H' F' A' s ((low en).unset hp)
  | ret d ρ => exact fun v σ' H' F' A' B s dj en q => h v σ' H' F' A' B s dj (low en) q
  | exc x ρ => exact h.elim
end
theorem HdD.wm {X : Cx} {L : Lc} {D : Ends} {hds : List ExceptHandler} {hs : List Hx} {l : List Hnd} (h : HdD X L hds hs l) : ∀ {F A : FP} {H : Hp} {σ : L2.St} {ρ : Ro} {x : Exn} {c : Value} {dd : Option Addr}, Sta F A H → EnvL X.K L F H ρ σ A → ExcR X.K L.cA F H x c dd → PostS X.K L F A H D (handle hs x ρ) → wMix X.K L.W D l c dd σ H := by
  induction h with
  | nil =>
    intro F A H σ ρ x c dd st en ex p
    exact p c dd σ H F A (Step.refl st) en ex
  | one hc hm hsu hr ih =>
    intro F A H σ ρ x c dd st en ex p
    unfold handle at p
    have ec : c = .ref (L.cA x.c) := ex.1
    split at p
    · exact p.elim
    · rename_i e
      exact ⟨false, by rw [ec]; exact hm _ _ e, (fun z => nomatch z), fun _ => ih st en ex p⟩
    · rename_i e
      exact ⟨true, by rw [ec]; exact hm _ _ e, fun _ a na => ⟨x, e, ρ, F, A, st, ⟨en.env, en.pin⟩, ex, PostS.suite0 p⟩, fun z => nomatch z⟩
  | «as» i hi hln hloc hp hc hm hsu hr ih =>
    intro F A H σ ρ x c dd st en ex p
    unfold handle at p
    have ec : c = .ref (L.cA x.c) := ex.1
    split at p
    · exact p.elim
    · rename_i e
      exact ⟨false, by rw [ec]; exact hm _ _ e, (fun z => nomatch z), fun _ => ih st en ex p⟩
    · rename_i e
      simp only at p
      split at p
      · rename_i hl
        refine ⟨true, by rw [ec]; exact hm _ _ e, fun _ a na => ⟨x, e, ρ.set i none, F, A, st, ?_, ex, PostS.suiteAs hp p⟩, fun z => nomatch z⟩
        have en' := en.unset (o := some (.ref a)) hp
        refine ⟨en'.env, fun q hq => ?_⟩
        rcases List.mem_cons.mp hq with hq | hq
        · rw [hq]
          show (σ.set i (some (.ref a)))[i]? = some (some (.ref a))
          rw [List.getElem?_set_self (by rw [← en.env.len]; exact hl)]
        · exact en'.pin q hq
      · exact p.elim
theorem ds_try {X : Cx} {L : Lc} {body : List Stmt} {h₀ : ExceptHandler} {hds : List ExceptHandler} {hs : List Hx} {l : List Hnd} {pos : Pos} {mb : Ro → RS} (hN : X.N.Nodup) (tk : Takes X L.W)
    (hb : ∀ (W : WX) (pn : List (Addr × Obj)) (xe : Value → Shared → Prop), Takes (X.tr pn xe) W → PassesOwn (model X.prog X.w) X.A X.env xe → DB (X.tr pn xe) ⟨L.cA, W, L.pin⟩ body mb) (hh : HdD X L (h₀ :: hds) hs l) (e1 : X.stack = X.env :: X.outer := by rfl) (e2 : X.env.frame = some X.env.locals := by rfl) :
    DS X L (.Try body (h₀ :: hds) [] [] pos) (mTry mb hs) := ⟨ps_to (ps_try_mix (tb := fun W => lftS X.K ⟨L.cA, W, L.pin⟩ mb) e1 e2 hN tk (fun W pn xe t p => (hb W pn xe t p).ps) hh.mix) fun D σ H ⟨ρ, F, A, st, en, p⟩ => by
  refine ⟨ρ, F, A, st, ⟨en.env, en.pin⟩, ?_⟩
  unfold mTry at p
  cases e : mb ρ with
  | bad => rw [e] at p; exact p
  | nx ρ' => rw [e] at p; exact fun σ' H' F' A' s en => p σ' H' F' A' s ⟨en.env, en.pin⟩
  | bk ρ' => rw [e] at p; exact fun σ' H' F' A' s en => p σ' H' F' A' s ⟨en.env, en.pin⟩
  | ct ρ' => rw [e] at p; exact fun σ' H' F' A' s en => p σ' H' F' A' s ⟨en.env, en.pin⟩
  | ret d ρ' => rw [e] at p; exact fun v σ' H' F' A' B s dj en q => p v σ' H' F' A' B s dj ⟨en.env, en.pin⟩ q
  | exc x ρ' =>
    rw [e] at p
    intro c dd σ' H' F' A' s en ex
    exact hh.wm s.sta ⟨en.env, en.pin⟩ ex (PostS.step s p)⟩
end T
end

section
set_option Elab.async false
set_option linter.all false
set_option maxRecDepth 100000
set_option maxHeartbeats 1000000
namespace T
open PySem PySem.Spec PyProof.Rows L2
theorem hu_ofR {k : Nat} {A : Around} (h : Roo k A) : A.units + 64 < cLine := by have := h.rm.un; omega
section
variable {X : Cx} {L : Lc} {pos apos p pos' : Pos} {x : Str} {a b c e : Expr} {es : List Expr} {m ma mb mc mi : Ro → R D} {ms : Ro → R (List D)}
/-! ### changes of a list -/
theorem ds_app (i : Nat) (he : DE X L e m) (hN : X.N[i]? = some x := by rfl) (hv : Vis X.env.scope x := by first | exact Or.inl rfl | exact Or.inr (Or.inl rfl) | exact Or.inr (Or.inr rfl)) (hd : (x == ("__debug__" : Str)) = false := by decide) (hcd : (x == ("__classdict__" : Str)) = false := by decide)
    (h1 : attributeBase (.Name x p) (Str.ofString "append") X.env (eval (.Name x p) X.env) = eval (.Name x p) X.env := by rfl) (h2 : ((((backTo pos (starEach (e :: []) X.env)).all fun x => !x.1) && (backToKw pos (keywordEach [] X.env)).all fun x => x.1.isSome) && decide ((e :: []).length + ([] : List Keyword).length + (if ([] : List Keyword).isEmpty = true then 0 else 1) < 30)) = true := by rfl)
    (h3 : (apos.endLine == pos.line) = true := by rfl) (h4 : starEach (e :: []) X.env = (false, eval e X.env) :: starEach [] X.env := by rfl) (h5 : (backTo pos (starEach [] X.env)).any (·.1) = false := by rfl) (hs : swapsWith (.Call (.Attribute (.Name x p) (Str.ofString "append") apos) [e] [] pos) none pos.line X.env = pure false := by rfl) :
    DS X L (.Expr (.Call (.Attribute (.Name x p) (Str.ofString "append") apos) [e] [] pos) pos) (mMut i fApp m) :=
  ds_mut i F.slot_list_append F.type_list_append mt_append mk_app he hN hv hd hcd (pe_bm F.plainAttrs_list F.slot_list_append F.type_list_append mt_append (pe_var hN hv hd hcd) (pa_cons he.pe pa_nil h4) h1 h2 h3 h4 h5) hs
/-- x.extend(e), e a fresh list -/
def fExtO : List D → D → Option (List D) := fun ds d => match d with
  | .lst true es => if szOk (ds.length + es.length) then some (ds ++ es) else none
  | _ => none
theorem mk_ext {K : Frag} : MutOk K L rExtend fExtO := by
  intro F A B H σ Q ds ds' d v ρ i en st dj e q ef h a ea
  unfold fExtO at ef
  split at ef
  · rename_i es
    split at ef
    · rename_i hz
      cases ef
      obtain ⟨bb, zs, Bz, rfl, hb, mb, sb, rz⟩ := q
      obtain ⟨a', vs, e1, t, l, up⟩ := en.updL e st dj
      rw [ea] at e1
      cases e1
      have lz : es.length = zs.length := rz.len
      obtain ⟨s, en'⟩ := up (ds ++ es) (vs ++ zs) fun A' dj' rr => (rr.append rz fun b x y => dj' b x (sb b y).1).move (fun _ y => y) (fun _ _ _ e => e) fun b y => y.imp id fun y => (sb b y).1
      exact ⟨a, bb, vs, zs, rfl, rfl, t, hb, by rw [← l, ← lz]; exact of_decide_eq_true hz, h _ _ _ s en'⟩
    · cases ef
  · cases ef
theorem ds_ext (i : Nat) (he : DE X L e m) (hN : X.N[i]? = some x := by rfl) (hv : Vis X.env.scope x := by first | exact Or.inl rfl | exact Or.inr (Or.inl rfl) | exact Or.inr (Or.inr rfl)) (hd : (x == ("__debug__" : Str)) = false := by decide) (hcd : (x == ("__classdict__" : Str)) = false := by decide)
    (h1 : attributeBase (.Name x p) (Str.ofString "extend") X.env (eval (.Name x p) X.env) = eval (.Name x p) X.env := by rfl) (h2 : ((((backTo pos (starEach (e :: []) X.env)).all fun x => !x.1) && (backToKw pos (keywordEach [] X.env)).all fun x => x.1.isSome) && decide ((e :: []).length + ([] : List Keyword).length + (if ([] : List Keyword).isEmpty = true then 0 else 1) < 30)) = true := by rfl)
    (h3 : (apos.endLine == pos.line) = true := by rfl) (h4 : starEach (e :: []) X.env = (false, eval e X.env) :: starEach [] X.env := by rfl) (h5 : (backTo pos (starEach [] X.env)).any (·.1) = false := by rfl) (hs : swapsWith (.Call (.Attribute (.Name x p) (Str.ofString "extend") apos) [e] [] pos) none pos.line X.env = pure false := by rfl) :
    DS X L (.Expr (.Call (.Attribute (.Name x p) (Str.ofString "extend") apos) [e] [] pos) pos) (mMut i fExtO m) :=
  ds_mut i F.slot_list_extend F.type_list_extend mt_extend mk_ext he hN hv hd hcd (pe_bm F.plainAttrs_list F.slot_list_extend F.type_list_extend mt_extend (pe_var hN hv hd hcd) (pa_cons he.pe pa_nil h4) h1 h2 h3 h4 h5) hs
/-- x[j] = e -/
def mSetIx (i : Nat) (mi m : Ro → R D) : Ro → RS := fun ρ => bS (m ρ) fun d ρ1 => match ρ1[i]? with
  | some (some _) => bS (mi ρ1) fun k ρ2 => (match k, ρ2[i]? with
    | .int k, some (some (.lst true ds)) => (match ixN ds.length k with
      | some j => .nx (ρ2.set i (some (.lst true (ds.set j d))))
      | none => .bad)
    | _, _ => .bad)
  | _ => .bad
theorem lftS_rest2 {α β : Type} {K : Frag} {L : Lc} {rel : Rel α β} {m : Ro → R α} {f : α → Ro → RS} {σ : L2.St} {D : Ends} {Q' : β → Hp → Prop} {H0 : Hp} {F0 A0 B0 : FP} {ρ0 : Ro} (st : Sta F0 (un A0 B0) H0) (d0 : Dj A0 B0) (en : EnvL K L F0 H0 ρ0 σ A0) (p : PostS K L F0 (un A0 B0) H0 D (bS (m ρ0) f))
    (k : ∀ y H1 F1 A1 B a ρ1, Sta F1 (un (un A1 B) B0) H1 → Dj A1 B → Dj (un A1 B) B0 → EnvL K L F1 H1 ρ1 σ A1 → rel K L.cA F1 H1 a y B → (∀ b, F0 b → F1 b) → (∀ b o, F0 b ∨ B0 b → H0 b = some o → H1 b = some o) → PostS K L F1 (un (un A1 B) B0) H1 D (f a ρ1) → Q' y H1) : lft K L rel m σ H0 Q' := by
  refine ⟨ρ0, F0, A0, st.sub fun b x => .inl x, en, ?_⟩
  have s0 := Step.refl st
  cases e : m ρ0 with
  | bad => rw [e] at p; exact p
  | ok a ρ1 =>
    rw [e] at p
    intro y H1 F1 A1 B s d en1 q
    obtain ⟨s1, d1, kb⟩ := s0.seq d0 s
    exact k y H1 F1 A1 B a ρ1 s1.sta d d1 en1 q s.fr kb (PostS.step s1 p)
  | exc x ρ1 =>
    rw [e] at p
    intro c dd H1 F1 A1 s en1 q
    obtain ⟨s1, d1, kb⟩ := s0.seq d0 s
    exact p c dd σ H1 F1 A1 (s1.sub fun b x => .inl x) en1 q
theorem ds_setIx (i : Nat) (he : DE X L e m) (hi : DE X L b mi) (hN : X.N[i]? = some x := by rfl) (hv : Vis X.env.scope x := by first | exact Or.inl rfl | exact Or.inr (Or.inl rfl) | exact Or.inr (Or.inr rfl)) (hd : (x == ("__debug__" : Str)) = false := by decide) (hcd : (x == ("__classdict__" : Str)) = false := by decide)
    (ha : ∀ v : Value, assign (.Subscript (.Name x p) b pos') X.env v = (do
      let ov ← holding [v] (eval (.Name x p) X.env)
      let iv ← holding [v, ov] (eval b X.env)
      standAt pos'
      holding [v, ov, iv] (setItem ov iv v)
      release [v, ov, iv] []) := by intro _; rfl)
    (h1 : swapsWithSole [.Subscript (.Name x p) b pos'] e pos.line X.env = pure false := by rfl) (h2 : swappedStores [.Subscript (.Name x p) b pos'] e X.env = pure none := by rfl) (h3 : (assignEach [.Subscript (.Name x p) b pos'] X.env).map (fun x => x.2) = [assign (.Subscript (.Name x p) b pos') X.env] := by rfl) :
    DS X L (.Assign [.Subscript (.Name x p) b pos'] e pos) (mSetIx i mi m) := ⟨ps_to (ps_asg he.pe (pg_sub (pe_var hN hv hd hcd) hi.pe set_list ha) h1 h2 h3) fun D σ H h => by
  refine lftS_bind h fun v H1 F1 A1 B1 d ρ1 st dj en q po => ?_
  split at po
  · rename_i d0 e0
    obtain ⟨v0, _, _, e1, _, _, _⟩ := en.env.take e0
    refine ⟨v0, e1, ?_⟩
    refine lftS_rest2 st dj en po fun kv H2 F2 A2 B2 k ρ2 st2 dj2 dj2' en2 q2 fr kb p2 => ?_
    split at p2
    · rename_i kk ds e2
      split at p2
      · rename_i j ej
        have st3 : Sta F2 (un A2 B1) H2 := st2.sub fun b y => y.imp .inl id
        obtain ⟨a, vs, e3, t, l, up⟩ := en2.updL (B := B1) e2 st3 fun b y z => dj2' b (.inl y) z
        rw [e1] at e3
        cases e3
        obtain ⟨s, en'⟩ := up (ds.set j d) (vs.set j v) fun A' dj' rr => Reps.set j rr (q.move fr kb fun _ y => y) dj'
        refine ⟨a, vs, kk, j, rfl, q2, t, by rw [← l]; exact ej, ?_⟩
        have s2 : Step F2 (un (un A2 B2) B1) H2 F2 (un A2 B1) H2 := (Step.refl st2).sub fun b y => y.imp .inl id
        exact p2 σ _ F2 (un A2 B1) (s2.trans s) en'
      · exact p2.elim
    · exact p2.elim
  · exact po.elim⟩
/-! ### max, chains -/
def oMax2 : List D → Ro → R D
  | [.int i, .int j], ρ => .ok (.int (if j > i then j else i)) ρ
  | _, _ => .bad
theorem on_max2 {K : Frag} : OpN K L (fun xs H Q => ∃ i j, xs = [V.int i, V.int j] ∧ Q (V.int (if j > i then j else i)) H) oMax2 := by
  intro F A B H σ Q ds vs ρ st dj en q p
  unfold oMax2 at p
  split at p
  · rename_i i j
    obtain ⟨v1, _, _, _, rfl, _, r1, r2⟩ := q
    obtain ⟨v2, _, _, _, rfl, _, r3, r4⟩ := r2
    cases r4
    cases (show v1 = V.int i from r1)
    cases (show v2 = V.int j from r3)
    exact ⟨i, j, rfl, p.leaf rfl st (fun b y => .inl y) en⟩
  · exact p.elim
theorem de_max2 (hc : X.calm = true) (hm : X.mg "max" = none) (ha : DA X L (e :: es) ms) (hg : Gl X "max" := by rfl) (he : starEach (e :: es) X.env = (false, eval e X.env) :: starEach es X.env := by rfl) (hpl : (backTo pos (starEach es X.env)).any (·.1) = false := by rfl) :
    DE X L (.Call (.Name "max" p) (e :: es) [] pos) (mN oMax2 ms) := de_callB (call_max2 hc) on_max2 hm PyProof.Rows.Boot.max ha hg (by decide) (by decide) he hpl
def intsD : List D → Option (List Int)
  | [] => some []
  | .int i :: ds => (intsD ds).map (i :: ·)
  | _ => none
theorem Reps.intsD {K : Frag} {cA : Cid → Addr} {F : FP} {H : Hp} : ∀ {ds : List D} {vs : List V} {A : FP} {ns : List Int}, T.intsD ds = some ns → Reps K cA F H ds vs A → vs = ns.map V.int
  | [], _, _, _, e, r => by cases e; exact r
  | d :: ds, _, _, ns, e, r => by
    obtain ⟨v, vs', A1, A2, rfl, s, q, rs⟩ := r
    cases d <;> try (cases e)
    rename_i i
    obtain ⟨ms, e1, rfl⟩ := Option.map_eq_some_iff.mp e
    rw [List.map_cons, ← Reps.intsD e1 rs]
    exact congrArg (· :: vs') q
def maxI : List Int → Option Int
  | [] => none
  | i :: is => some (is.foldl max i)
theorem maxI_ge {ns : List Int} {z m y : Int} (h : maxI ns = some z) (hm : m ∈ ns) (hge : ∀ y ∈ ns, y ≤ m) : m = z := by
  match ns, h with
  | i :: is, h =>
    cases h
    have aux : ∀ (is : List Int) (i : Int), (∀ y ∈ i :: is, y ≤ is.foldl max i) ∧ is.foldl max i ∈ i :: is := by
      intro is
      induction is with
      | nil => intro i; simp
      | cons j is ih =>
        intro i
        obtain ⟨h1, h2⟩ := ih (max i j)
        refine ⟨fun y hy => ?_, ?_⟩
        · rw [List.foldl_cons]
          rcases List.mem_cons.mp hy with hy | hy
          · have := h1 (max i j) (List.mem_cons_self ..); omega
          · rcases List.mem_cons.mp hy with hy | hy
            · have := h1 (max i j) (List.mem_cons_self ..); omega
            · exact h1 y (List.mem_cons_of_mem _ hy)
        · rw [List.foldl_cons]
          rcases List.mem_cons.mp h2 with h2 | h2
          · rw [h2]
            by_cases q : i ≤ j
            · rw [Int.max_eq_right q]; simp
            · rw [Int.max_eq_left (by omega)]; simp
          · exact List.mem_cons_of_mem _ (List.mem_cons_of_mem _ h2)
    obtain ⟨h1, h2⟩ := aux is i
    have a1 := h1 m hm
    have a2 := hge _ h2
    omega
def oMax1 : List D → Ro → R D
  | [.lst _ ds], ρ => match intsD ds with
    | some ns => (match maxI ns with
      | some m => .ok (.int m) ρ
      | none => .bad)
    | none => .bad
  | _, _ => .bad
theorem on_max1 {K : Frag} : OpN K L (rMax K) oMax1 := by
  intro F A B H σ Q ds vs ρ st dj en q p
  unfold oMax1 at p
  split at p
  · rename_i o ds
    split at p
    · rename_i ns en'
      split at p
      · rename_i m em
        obtain ⟨v1, _, _, _, rfl, _, r1, r2⟩ := q
        cases r2
        obtain ⟨a, vs, A', rfl, rd, _, rr⟩ := r1.lst
        have ev := rr.intsD en'
        subst ev
        refine ⟨a, ns, rfl, .inl rd, ?_, fun m' hm hge => ?_⟩
        · match ns, em with
          | i :: is, _ => simp
        · rw [maxI_ge (y := 0) em hm hge]
          exact p.leaf rfl st (fun b y => .inl y) en
      · exact p.elim
    · exact p.elim
  · exact p.elim
theorem de_max1 (hc : X.calm = true) (hm : X.mg "max" = none) (ha : DA X L (e :: es) ms) (hg : Gl X "max" := by rfl) (he : starEach (e :: es) X.env = (false, eval e X.env) :: starEach es X.env := by rfl) (hpl : (backTo pos (starEach es X.env)).any (·.1) = false := by rfl) :
    DE X L (.Call (.Name "max" p) (e :: es) [] pos) (mN oMax1 ms) := de_callB (cr_max hc) on_max1 hm PyProof.Rows.Boot.max ha hg (by decide) (by decide) he hpl
end
end T
end

section
set_option Elab.async false
set_option linter.all false
set_option maxRecDepth 100000
set_option maxHeartbeats 1000000
namespace T
open PySem PySem.Spec PyProof.Rows L2
section
variable {X : Cx} {L : Lc} {pos apos p : Pos} {x m' : Str} {a b c e o : Expr} {es : List Expr} {m ma mb mc mo : Ro → R D} {ms : Ro → R (List D)} {ls : List (Option Nat)} {k : Nat} {f : Addr} {cc : Cid} {fd : FuncData} {ps : List Str} {io : List Nat} {g : List D → RF} {dds : List D} {dvs : List V} {us : List Value}
/-- a < b < c, b no object -/
def chEnd (o2 : D → D → Ro → R D) (mc : Ro → R D) (b : D) : D → Ro → R D
  | .bl true, ρ => (mc ρ).bind fun c ρ4 => o2 b c ρ4
  | .bl false, ρ => .ok (.bl false) ρ
  | _, _ => .bad
def mCh (o1 o2 : D → D → Ro → R D) (ma mb mc : Ro → R D) : Ro → R D := fun ρ => (ma ρ).bind fun a ρ1 => (mb ρ1).bind fun b ρ2 => match leaf b with
  | some _ => (o1 a b ρ2).bind (chEnd o2 mc b)
  | none => .bad
theorem lft_chain {K : Frag} {r1 r2 : R2} {o1 o2 : D → D → Ro → R D} (h1 : Op2 K L r1 o1) (h2 : Op2 K L r2 o2) : ∀ σ H Q, lft K L rE (mCh o1 o2 ma mb mc) σ H Q → tChain r1 r2 (lft K L rE ma) (lft K L rE mb) (lft K L rE mc) σ H Q := by
  intro σ H Q h
  refine lft_bind h fun v1 H1 F1 A1 B1 d1 ρ1 st1 dj1 en1 q1 p1 => ?_
  refine lft_rest st1 dj1 en1 p1 fun v2 H2 F2 A2 B2 d2 ρ2 st2 dj2 dj2' en2 q2 fr kb p2 => ?_
  split at p2
  · rename_i w hw
    have ev := q2.leaf hw
    refine h1 F2 A2 B1 B2 H2 σ _ d1 d2 v1 v2 ρ2 st2 dj2 dj2' en2 (q1.move fr kb fun _ x => x) q2 ?_
    cases e1 : o1 d1 d2 ρ2 with
    | bad => rw [e1] at p2; exact p2
    | exc z ρ3 => rw [e1] at p2; exact p2
    | ok z ρ3 =>
      rw [e1] at p2
      have p2 : Post K L rE F2 (un (un A2 B2) B1) H2 σ Q (chEnd o2 mc d2 z ρ3) := p2
      intro y H3 F3 A3 B3 s dj3 en3 q3
      have p3 := p2.step s
      unfold chEnd at p3
      split at p3
      · refine ⟨true, q3, ?_⟩
        have st4 : Sta F3 (un A3 no) H3 := s.sta.sub fun b y => y.elim .inl False.elim
        refine lft_rest (B0 := no) st4 (fun _ _ z => z.elim) en3 (Post.step ((Step.refl s.sta).sub fun b y => y.elim .inl False.elim) p3) fun v4 H4 F4 A4 B4 d4 ρ4 st5 dj5 dj5' en5 q5 fr5 kb5 p5 => ?_
        exact h2 F4 A4 no B4 H4 σ Q d2 d4 v2 v4 ρ4 st5 dj5 dj5' en5 (by rw [ev]; exact Rep.ofLeaf hw) q5 p5
      · refine ⟨false, q3, ?_⟩
        exact p3.leaf rfl s.sta (fun b y => .inl y) en3
      · exact p3.elim
  · exact p2.elim
theorem de_chain {op op' : CmpOp} {o1 o2 : D → D → Ro → R D} (c1 : CmpR X L op b o1) (c2 : CmpR X L op' c o2) (ha : DE X L a ma) (hb : DE X L b mb) (hc : DE X L c mc) (hl : lastMarks [op, op'] [b, c] = false := by rfl) : DE X L (.Compare a [op, op'] [b, c] pos) (mCh o1 o2 ma mb mc) := by
  obtain ⟨r1, w1, h1⟩ := c1.ex
  obtain ⟨r2, w2, h2⟩ := c2.ex
  exact ⟨pe_to (pe_chain w1 w2 ha.pe hb.pe hc.pe hl) (lft_chain h1 h2)⟩
theorem dt_chain {op op' : CmpOp} {o1 o2 : D → D → Ro → R D} (c1 : CmpR X L op b o1) (c2 : CmpR X L op' c o2) (ha : DE X L a ma) (hb : DE X L b mb) (hc : DE X L c mc) (hl : lastMarks [op, op'] [b, c] = false := by rfl) : DT X L (.Compare a [op, op'] [b, c] pos) (mT (mCh o1 o2 ma mb mc)) := by
  obtain ⟨r1, w1, h1⟩ := c1.ex
  obtain ⟨r2, w2, h2⟩ := c2.ex
  exact ⟨pt_to (pt_chain w1 w2 ha.pe hb.pe hc.pe hl) (lft_T (lft_chain h1 h2))⟩
/-! ### calls without arguments, methods of names that are lent, objects without arguments -/
theorem pe_callG0 {X : Cx} {CX : CXT} {sp : Sp} {ds : List Value} {E : L2.St → XK} (F : FnG X.prog X.w X.K X.mg X.base CX k f fd ps sp) (hr : Roo k X.A) (hg : Gl X x) (hm : X.mg x = some (.ref f)) (hk : PySem.W.keepIn X.K (.ref f) = true) (hb : L2.Binds X.K fd ps ds) (hd : Vals dvs ds) (hx : ∀ σ, PassesAt CX X σ (E σ)) (hdb : (x == ("__debug__" : Str)) = false) :
    PE X (.Call (.Name x p) [] [] pos) (tCallSD sp dvs E tNil) := ⟨fun pins s σ H Q I h => by
  refine wpAny_Call_Name_kw (ld_glob I hg hm ?_ hdb)
  exact PySem.W.callWith_K0 (first := []) I.kIn hk (run_fnG (us := []) (vs := []) F hr hb hd (hx σ) I .nil h)⟩
def mCall0 (g : List D → RF) : Ro → R D := fun ρ => afterC [] ρ (g [])
theorem de_call0 (F : FnT X.prog X.w X.K X.mg X.base L.cA k f fd ps [] g) (hr : Roo k X.A) (tk : Takes X L.W) (hm : X.mg x = some (.ref f)) (hk : PySem.W.keepIn X.K (.ref f) = true) (hb : Binds X.K fd ps []) (hn : 0 = ps.length := by rfl) (hg : Gl X x := by rfl) (hdb : (x == ("__debug__" : Str)) = false := by decide) :
    DE X L (.Call (.Name x p) [] [] pos) (mCall0 g) := ⟨pe_to (pe_callG0 (E := fun σ => WE L.W σ) F hr hg hm hk hb .nil (fun σ => passAt tk σ) hdb) fun σ H Q ⟨ρ, F0, A, st, en, po⟩ => by
  have st' : Sta F0 (un A no) H := st.sub fun b y => y.elim id False.elim
  refine spT_of (ls := []) (ds := []) st' (fun _ _ z => z.elim) en rfl (fun i j v e => by simp at e) hn rfl (Post.step ((Step.refl st).sub fun b y => y.elim id False.elim) po)⟩
theorem de_methL {pl : Sem Bool} (j : Nat) (hc : Cls X.K (L.cA cc)) (hm : Meth X.K (L.cA cc) m' f) (F : FnT X.prog X.w X.K X.mg X.base L.cA k f fd ps io g) (hr : Roo k X.A) (tk : Takes X L.W) (hb : Binds X.K fd ps us) (hd : Vals dvs us) (hdd : Dfl X.K L.cA dds dvs) (ha : DL X L (e :: es) ls ms)
    (hN : X.N[j]? = some x := by rfl) (hv : Vis X.env.scope x := by first | exact Or.inl rfl | exact Or.inr (Or.inl rfl) | exact Or.inr (Or.inr rfl)) (hdb : (x == ("__debug__" : Str)) = false := by decide) (hcd : (x == ("__classdict__" : Str)) = false := by decide)
    (hn : 1 + ls.length + dds.length = ps.length := by rfl) (hio : io.all (fun i => decide (i < ps.length)) = true := by rfl) (hst : starEach (e :: es) X.env = (false, eval e X.env) :: starEach es X.env := by rfl) (hpl : (backTo pos (starEach es X.env)).any (·.1) = false := by rfl)
    (ht : eval (.Call (.Attribute (.Name x p) m' apos) (e :: es) [] pos) X.env = (do
      let ov ← eval (.Name x p) X.env
      standAt apos.atName
      let (f, first) ← holding [ov] (getMethod ov m' pl)
      callWith pos f first (backTo pos (starEach (e :: es) X.env)) (backToKw pos (keywordEach [] X.env))) := by rfl) : DE X L (.Call (.Attribute (.Name x p) m' apos) (e :: es) [] pos) (mMethL j cc m' ls io dds g ms) :=
  ⟨pe_to (pe_methSD (E := fun σ => WE L.W σ) (pe_var hN hv hdb hcd) hc hm F hr hb hd (fun σ => passAt tk σ) ha.pa hst hpl ht) (lft_methL hdd hn hio)⟩
theorem de_methL0 {pl : Sem Bool} (j : Nat) (hc : Cls X.K (L.cA cc)) (hm : Meth X.K (L.cA cc) m' f) (F : FnT X.prog X.w X.K X.mg X.base L.cA k f fd ps io g) (hr : Roo k X.A) (tk : Takes X L.W) (hb : Binds X.K fd ps us) (hd : Vals dvs us) (hdd : Dfl X.K L.cA dds dvs)
    (hN : X.N[j]? = some x := by rfl) (hv : Vis X.env.scope x := by first | exact Or.inl rfl | exact Or.inr (Or.inl rfl) | exact Or.inr (Or.inr rfl)) (hdb : (x == ("__debug__" : Str)) = false := by decide) (hcd : (x == ("__classdict__" : Str)) = false := by decide)
    (hn : 1 + 0 + dds.length = ps.length := by rfl) (hio : io.all (fun i => decide (i < ps.length)) = true := by rfl)
    (ht : eval (.Call (.Attribute (.Name x p) m' apos) [] [] pos) X.env = (do
      let ov ← eval (.Name x p) X.env
      standAt apos.atName
      let (f, first) ← holding [ov] (getMethod ov m' pl)
      callWith pos f first (backTo pos (starEach [] X.env)) (backToKw pos (keywordEach [] X.env))) := by rfl) : DE X L (.Call (.Attribute (.Name x p) m' apos) [] [] pos) (mMethL j cc m' [] io dds g mNil) :=
  ⟨pe_to (pe_methSD0 (E := fun σ => WE L.W σ) (pe_var hN hv hdb hcd) hc hm F hr hb hd (fun σ => passAt tk σ) ht) fun σ H Q h => by
    obtain ⟨v, e1, a, dx, fs, e2, e3, e4, q4⟩ := lft_methL (ls := []) (ms := mNil) (ps := ps) hdd hn hio σ H Q h
    refine ⟨v, e1, a, dx, fs, e2, e3, e4, ?_⟩
    obtain ⟨ρ2, F2, A2, st2, en2, p2⟩ := q4
    exact p2.val (A1 := A2) st2 (fun _ x => x) en2 ⟨rfl, rfl⟩⟩
end
end T
end

section
set_option Elab.async false
set_option linter.all false
set_option maxRecDepth 100000
set_option maxHeartbeats 1000000
namespace T
open PySem PySem.Spec PyProof.Rows L2
/-! ### x.f.append(e): a list that a field holds -/
def posF (f : Str) : List Str → Option Nat
  | [] => none
  | g :: fs => if f == g then some 0 else (posF f fs).map (· + 1)
theorem lookup_pos {f : Str} : ∀ {fs : List Str} {vs : List V} {j : Nat} {v : V}, posF f fs = some j → vs[j]? = some v → (fs.zip vs).lookup f = some v
  | [], _, _, _, e, _ => by cases e
  | g :: fs, [], j, v, _, h => by simp at h
  | g :: fs, y :: ys, j, v, e, h => by
    unfold posF at e
    by_cases q : (f == g) = true
    · rw [if_pos q] at e
      cases e
      simp at h
      simp [List.zip, List.lookup, q, h]
    · rw [if_neg q] at e
      obtain ⟨i, e1, rfl⟩ := Option.map_eq_some_iff.mp e
      have q' : (f == g) = false := by simpa using q
      simp only [List.zip_cons_cons, List.lookup_cons, q']
      exact lookup_pos e1 (by simpa using h)
section
variable {K : Frag} {cA : Cid → Addr} {F : FP} {H : Hp}
theorem Reps.lens : ∀ {ds : List D} {vs : List V} {A : FP} {j : Nat} {xs : List D}, Reps K cA F H ds vs A → ds[j]? = some (.lst true xs) → ∃ l ws A0, vs[j]? = some (.ref l) ∧ H l = some (.lst ws) ∧ A l ∧ (∀ b, A0 b → A b ∧ b ≠ l) ∧ Reps K cA F H xs ws A0 ∧
    ∀ (H' : Hp) (xs' : List D) (ws' : List V) (B : FP), (∀ b, F b → b ≠ l) → (∀ b o, F b ∨ A b → b ≠ l → H b = some o → H' b = some o) → H' l = some (.lst ws') → Dj A B → Reps K cA F H' xs' ws' (un A0 B) → Reps K cA F H' (ds.set j (.lst true xs')) vs (un A B)
  | [], _, _, j, _, _, e => by simp at e
  | d :: ds, _, A, 0, xs, h, e => by
    obtain ⟨v, vs', A1, A2, rfl, s, r, rs⟩ := h
    cases (show d = .lst true xs by simpa using e)
    obtain ⟨l, ws, A', rfl, t, ml, sl, rr⟩ := r
    refine ⟨l, ws, A', rfl, t, s.l l ml, fun b y => ⟨s.l b (sl b y).1, (sl b y).2⟩, rr, fun H' xs' ws' B nF k hl dj r' => ?_⟩
    have nB : ∀ b, B b → b ≠ l := fun b y z => dj b (by rw [z]; exact s.l l ml) y
    refine ⟨.ref l, vs', un A1 B, A2, rfl, ⟨fun b y => y.imp (s.l b) id, fun b y => .inl (s.r b y), fun b y z => y.elim (fun y => s.d b y z) fun y => dj b (s.r b z) y⟩, ⟨l, ws', un A' B, rfl, hl, .inl ml, fun b y => ⟨y.imp (fun y => (sl b y).1) id, y.elim (fun y => (sl b y).2) (nB b)⟩, r'⟩, ?_⟩
    exact rs.move (fun _ y => y) (fun b o y q => k b o (y.imp id (s.r b)) (y.elim (nF b) fun y z => s.d b (by rw [z]; exact ml) y) q) fun _ y => y
  | d :: ds, _, A, j + 1, xs, h, e => by
    obtain ⟨v, vs', A1, A2, rfl, s, r, rs⟩ := h
    obtain ⟨l, ws, A0, e1, t, ml, sl, rr, up⟩ := Reps.lens (j := j) rs (by simpa using e)
    refine ⟨l, ws, A0, by simpa using e1, t, s.r l ml, fun b y => ⟨s.r b (sl b y).1, (sl b y).2⟩, rr, fun H' xs' ws' B nF k hl dj r' => ?_⟩
    have u := up H' xs' ws' B nF (fun b o y n q => k b o (y.imp id (s.r b)) n q) hl (fun b y => dj b (s.r b y)) r'
    refine ⟨v, vs', A1, un A2 B, rfl, ⟨fun b y => .inl (s.l b y), fun b y => y.imp (s.r b) id, fun b y z => z.elim (s.d b y) (dj b (s.l b y))⟩, ?_, u⟩
    exact r.move (fun _ y => y) (fun b o y q => k b o (y.imp id (s.l b)) (y.elim (nF b) fun y z => s.d b y (by rw [z]; exact ml)) q) fun _ y => y
end
section
variable {X : Cx} {L : Lc} {pos apos fpos p : Pos} {x f : Str} {e : Expr} {m : Ro → R D} {id : String} {name : Str} {r : V → List V → Hp → VK → Prop} {cs : List Cid}
def mMutF (cs : List Cid) (i : Nat) (f : Str) (fn : List D → D → Option (List D)) (m : Ro → R D) : Ro → RS := fun ρ => match ρ[i]? with
  | some (some (.ins true c fs vs)) => (match posF f fs with
    | some j => (match vs[j]? with
      | some (.lst true xs) => if cs.contains c then bS (m (ρ.set i none)) fun d ρ1 => (match fn xs d with
        | some xs' => .nx (ρ1.set i (some (.ins true c fs (vs.set j (.lst true xs')))))
        | none => .bad) else .bad
      | _ => .bad)
    | none => .bad)
  | _ => .bad
/-- what such a method does with the list at l -/
def MutAt (K : Frag) (cA : Cid → Addr) (r : V → List V → Hp → VK → Prop) (fn : List D → D → Option (List D)) : Prop := ∀ F A0 B H (Q : VK) xs xs' d v l ws, H l = some (.lst ws) → Reps K cA F H xs ws A0 → (∀ b, A0 b → b ≠ l) → (∀ b, F b → b ≠ l) → (∀ b, B b → b ≠ l) → Dj A0 B → Rep K cA F H d v B → fn xs d = some xs' →
  (∀ ws', Reps K cA F (upd H l (.lst ws')) xs' ws' (un A0 B) → Q .non (upd H l (.lst ws'))) → r (.ref l) [v] H Q
theorem ma_app {K : Frag} {cA : Cid → Addr} : MutAt K cA rAppend fApp := by
  intro F A0 B H Q xs xs' d v l ws hl rs n1 n2 n3 dj q ef h
  unfold fApp at ef
  split at ef
  · rename_i hz
    cases ef
    refine ⟨l, ws, v, rfl, rfl, hl, by rw [← rs.len]; exact of_decide_eq_true hz, h (ws ++ [v]) ?_⟩
    exact (rs.append (Reps.one q) dj).move (fun _ y => y) (upd_keep fun b y => y.elim (n2 b) fun y => y.elim (n1 b) (n3 b)) fun _ y => y
  · cases ef
theorem ma_ext {K : Frag} {cA : Cid → Addr} : MutAt K cA rExtend fExtO := by
  intro F A0 B H Q xs xs' d v l ws hl rs n1 n2 n3 dj q ef h
  unfold fExtO at ef
  split at ef
  · rename_i es
    split at ef
    · rename_i hz
      cases ef
      obtain ⟨bb, zs, Bz, rfl, hb, mb, sb, rz⟩ := q
      refine ⟨l, bb, ws, zs, rfl, rfl, hl, hb, by rw [← rs.len, ← rz.len]; exact of_decide_eq_true hz, h (ws ++ zs) ?_⟩
      exact (rs.append rz fun b y z => dj b y (sb b z).1).move (fun _ y => y) (upd_keep fun b y => y.elim (n2 b) fun y => y.elim (n1 b) fun y => n3 b (sb b y).1) fun b y => y.imp id fun y => (sb b y).1
    · cases ef
  · cases ef
theorem lft_mutF {fn : List D → D → Option (List D)} (i : Nat) (hf : FldOk X.K L.cA cs f) (ma : MutAt X.K L.cA r fn) : ∀ (Dn : Ends) σ H, lftS X.K L (mMutF cs i f fn m) Dn σ H → tBM X.K "list" r (tFld X.K (tVar i) f) (tCons (lft X.K L rE m) tNil) σ H fun _ H' => Dn.nx σ H' := by
  rintro Dn σ H ⟨ρ, F, A, st, en, po⟩
  unfold mMutF at po
  split at po
  · rename_i c fs vs e0
    split at po
    · rename_i j ej
      split at po
      · rename_i xs ex
        split at po
        · rename_i hc
          obtain ⟨v, A1, A2, e1, s, r0, rs⟩ := en.env.take e0
          obtain ⟨a, ws, dx, A', rfl, t, hl, ma', sa, rr⟩ := r0
          obtain ⟨h1, h2⟩ := hf c hc
          obtain ⟨l, us, A0, el, tl, ml, sl, rl, up⟩ := rr.lens ex
          refine ⟨.ref a, e1, a, _, dx, _, .ref l, rfl, t, h1, h2, lookup_pos ej el, .inl ⟨rfl, us, .inl (.inl tl)⟩, ?_⟩
          have st' : Sta F (un A2 A1) H := st.sub fun b y => y.elim (s.r b) (s.l b)
          have en' : EnvL X.K L F H (ρ.set i none) σ A2 := ⟨rs, en.pin⟩
          have po' : PostS X.K L F (un A2 A1) H Dn (bS (m (ρ.set i none)) fun d ρ1 => (match fn xs d with
            | some xs' => .nx (ρ1.set i (some (.ins true c fs (vs.set j (.lst true xs')))))
            | none => .bad)) := PostS.step ((Step.refl st).sub fun b y => y.elim (s.r b) (s.l b)) po
          refine lftS_rest2 st' (fun b y z => s.d b z y) en' po' fun y H1 F1 A3 B1 d ρ1 st1 dj1 dj1' en1 q1 fr kb p1 => ?_
          split at p1
          · rename_i xs' ef
            -- at H1
            have nF1 : ∀ b, F1 b → b ≠ l := fun b z w => st1.dj b (.inr (by rw [w]; exact (sa l ml).1)) z
            have nB1 : ∀ b, B1 b → b ≠ l := fun b z w => dj1' b (.inr z) (by rw [w]; exact (sa l ml).1)
            have tl1 : H1 l = some (.lst us) := kb l _ (.inr (sa l ml).1) tl
            have rl1 : Reps X.K L.cA F1 H1 xs us A0 := rl.move fr (fun b o z => kb b o (z.imp id fun z => (sa b (sl b z).1).1)) fun _ z => z
            have rr1 : Reps X.K L.cA F1 H1 vs ws A' := rr.move fr (fun b o z => kb b o (z.imp id fun z => (sa b z).1)) fun _ z => z
            obtain ⟨l', us', A0', el', tl', ml', sl', rl', up'⟩ := rr1.lens ex
            rw [el] at el'
            cases el'
            rw [tl1] at tl'
            cases tl'
            refine ma F1 A0' B1 H1 _ xs xs' d y l us tl1 rl' (fun b z => (sl' b z).2) nF1 nB1 (fun b z w => dj1' b (.inr w) (sa b (sl' b z).1).1) q1 ef fun ws' r' => ?_
            have ne : a ≠ l := fun z => (sa l ml).2 z.symm
            have k1 : ∀ b o, F1 b ∨ A' b → b ≠ l → H1 b = some o → upd H1 l (.lst ws') b = some o := fun b o _ n e => by rw [upd_ne n]; exact e
            have r2 := up' (upd H1 l (.lst ws')) xs' ws' B1 nF1 k1 upd_same (fun b z w => dj1' b (.inr w) (sa b z).1) r'
            have r3 : Rep X.K L.cA F1 (upd H1 l (.lst ws')) (.ins true c fs (vs.set j (.lst true xs'))) (.ref a) (un A1 B1) :=
              ⟨a, ws, dx, un A' B1, rfl, by rw [upd_ne ne]; exact kb a _ (.inr ma') t, hl, .inl ma', fun b z => ⟨z.imp (fun z => (sa b z).1) (fun z => z), z.elim (fun z => (sa b z).2) fun z w => dj1' b (.inr z) (by rw [w]; exact ma')⟩, r2⟩
            have step := upd_step (w := .lst ws') st1 tl1 (.inr (sa l ml).1) (fun _ z => nomatch z)
            have en2 : EnvR X.K L.cA F1 (upd H1 l (.lst ws')) ρ1 σ A3 := en1.env.move (fun _ z => z) (upd_keep fun b z => z.elim (nF1 b) fun z w => dj1' b (.inl z) (by rw [w]; exact (sa l ml).1)) fun _ z => z
            have en3 := en2.back (i := i) r3 (fun b z w => w.elim (fun w => dj1' b (.inl z) w) (dj1 b z)) e1
            exact p1 σ _ F1 _ (step.sub fun b z => z.elim (fun z => .inl (.inl z)) fun z => z.elim .inr fun z => .inl (.inr z)) ⟨en3, en1.pin⟩
          · exact p1.elim
        · exact po.elim
      · exact po.elim
    · exact po.elim
  · exact po.elim
theorem ds_appF (i : Nat) (hf : FldOk X.K L.cA cs f) (he : DE X L e m) (hN : X.N[i]? = some x := by rfl) (hv : Vis X.env.scope x := by first | exact Or.inl rfl | exact Or.inr (Or.inl rfl) | exact Or.inr (Or.inr rfl)) (hd : (x == ("__debug__" : Str)) = false := by decide) (hcd : (x == ("__classdict__" : Str)) = false := by decide)
    (h0 : attributeBase (.Name x p) f X.env (eval (.Name x p) X.env) = eval (.Name x p) X.env := by rfl) (h1 : attributeBase (.Attribute (.Name x p) f fpos) (Str.ofString "append") X.env (eval (.Attribute (.Name x p) f fpos) X.env) = eval (.Attribute (.Name x p) f fpos) X.env := by rfl) (h2 : ((((backTo pos (starEach (e :: []) X.env)).all fun x => !x.1) && (backToKw pos (keywordEach [] X.env)).all fun x => x.1.isSome) && decide ((e :: []).length + ([] : List Keyword).length + (if ([] : List Keyword).isEmpty = true then 0 else 1) < 30)) = true := by rfl)
    (h3 : (apos.endLine == pos.line) = true := by rfl) (h4 : starEach (e :: []) X.env = (false, eval e X.env) :: starEach [] X.env := by rfl) (h5 : (backTo pos (starEach [] X.env)).any (·.1) = false := by rfl) (hs : swapsWith (.Call (.Attribute (.Attribute (.Name x p) f fpos) (Str.ofString "append") apos) [e] [] pos) none pos.line X.env = pure false := by rfl) :
    DS X L (.Expr (.Call (.Attribute (.Attribute (.Name x p) f fpos) (Str.ofString "append") apos) [e] [] pos) pos) (mMutF cs i f fApp m) :=
  ⟨ps_to (ps_expr (pe_bm F.plainAttrs_list F.slot_list_append F.type_list_append mt_append (pe_fld (pe_var hN hv hd hcd) h0) (pa_cons he.pe pa_nil h4) h1 h2 h3 h4 h5) hs) fun Dn σ H h => lft_mutF i hf ma_app Dn σ H h⟩
end
end T
end

section
set_option Elab.async false
set_option linter.all false
set_option maxRecDepth 100000
set_option maxHeartbeats 1000000
namespace T
open PySem PySem.Spec PyProof.Rows L2
/-! ### zip, enumerate, texts -/
theorem tup_turn {K : Frag} {cA : Cid → Addr} {F A : FP} {H : Hp} {q : Addr} {ds : List D} {vs : List V} (st : Sta F A H) (nq : H q = none) (r : Reps K cA F H ds vs no) : (∀ b o, H b = some o → upd H q (.tup vs) b = some o) ∧ ∃ F2, Step F A H F2 A (upd H q (.tup vs)) ∧ Rep K cA F2 (upd H q (.tup vs)) (.tup ds) (.ref q) no :=
  ⟨new_keep nq, _, newF_step st nq, q, vs, rfl, .inl ⟨upd_same, .inr rfl⟩, r.move (fun _ y => .inl y) (fun b o _ e => new_keep nq b o e) fun _ y => y⟩
theorem Reps.two {K : Frag} {cA : Cid → Addr} {F : FP} {H : Hp} {d1 d2 : D} {v1 v2 : V} (h1 : Rep K cA F H d1 v1 no) (h2 : Rep K cA F H d2 v2 no) : Reps K cA F H [d1, d2] [v1, v2] no :=
  ⟨v1, [v2], no, no, rfl, ⟨fun _ y => y, fun _ y => y, fun _ y => y.elim⟩, h1, v2, [], no, no, rfl, ⟨fun _ y => y, fun _ y => y, fun _ y => y.elim⟩, h2, rfl⟩
def zipD (as bs : List D) : List D := List.zipWith (fun a b => .tup [a, b]) as bs
theorem zipD_get {as bs : List D} {i : Nat} {d : D} (h : (zipD as bs)[i]? = some d) : ∃ a b, as[i]? = some a ∧ bs[i]? = some b ∧ d = .tup [a, b] := by
  unfold zipD at h
  rw [List.getElem?_zipWith] at h
  cases e1 : as[i]? with
  | none => rw [e1] at h; simp at h
  | some a =>
    cases e2 : bs[i]? with
    | none => rw [e1, e2] at h; simp at h
    | some b =>
      rw [e1, e2] at h
      simp at h
      exact ⟨a, b, rfl, rfl, h.symm⟩
theorem zipD_len {as bs : List D} {i : Nat} (h : (zipD as bs).length ≤ i) : as.length ≤ i ∨ bs.length ≤ i := by
  unfold zipD at h
  rw [List.length_zipWith] at h
  omega
section
variable {K : Frag} {cA : Cid → Addr} {F : FP} {H0 : Hp}
theorem list_at {a : Addr} {ds : List D} (r : Rep K cA F H0 (.lst false ds) (.ref a) no) {H : Hp} {F1 : FP} (f : ∀ b, F b → F1 b) (k : ∀ b o, F b → H0 b = some o → H b = some o) : ∃ vs, SqL K H a vs ∧ Reps K cA F1 H ds vs no := by
  have r1 := r.move (F' := F1) (H' := H) (A' := no) f (fun b o x e => x.elim (fun x => k b o x e) False.elim) (fun _ x => x)
  obtain ⟨a', vs, e, t, rs⟩ := r1
  cases e
  exact ⟨vs, t.sq, rs⟩
theorem tup_at {a : Addr} {ds : List D} (r : Rep K cA F H0 (.tup ds) (.ref a) no) {H : Hp} {F1 : FP} (f : ∀ b, F b → F1 b) (k : ∀ b o, F b → H0 b = some o → H b = some o) : ∃ vs, SqT K H a vs ∧ Reps K cA F1 H ds vs no := by
  have r1 := r.move (F' := F1) (H' := H) (A' := no) f (fun b o x e => x.elim (fun x => k b o x e) False.elim) (fun _ x => x)
  obtain ⟨a', vs, e, t, rs⟩ := r1
  cases e
  exact ⟨vs, t.sq, rs⟩
theorem runs_zipL {a b : Addr} {as bs : List D} (ra : Rep K cA F H0 (.lst false as) (.ref a) no) (rb : Rep K cA F H0 (.lst false bs) (.ref b) no) : Runs K cA F H0 (Itz K a b) (zipD as bs) := by
  refine ⟨fun i d H F1 A1 hd st f k => ?_, fun i H F1 A1 hl st f k => ?_⟩
  · obtain ⟨da, db, ea, eb, rfl⟩ := zipD_get hd
    obtain ⟨vs, sa, r1⟩ := list_at ra f k
    obtain ⟨ws, sb, r2⟩ := list_at rb f k
    obtain ⟨v, A2, e1, z1, q1⟩ := r1.get ea
    obtain ⟨w, A3, e2, z2, q2⟩ := r2.get eb
    refine ⟨⟨vs, ws, v, w, sa, sb, e1, e2⟩, fun x H' ⟨T, y1, y2, ex, nT, eH, g1, g2⟩ => ?_⟩
    have g1 := g1 vs sa
    have g2 := g2 ws sb
    rw [e1] at g1
    rw [e2] at g2
    cases g1
    cases g2
    subst ex
    subst eH
    exact tup_turn st nT (Reps.two (q1.move (fun _ y => y) (fun _ _ _ e => e) z1) (q2.move (fun _ y => y) (fun _ _ _ e => e) z2))
  · obtain ⟨vs, sa, r1⟩ := list_at ra f k
    obtain ⟨ws, sb, r2⟩ := list_at rb f k
    exact ⟨vs, ws, sa, sb, by rw [← r1.len, ← r2.len]; exact zipD_len hl⟩
theorem runs_zipT {a b : Addr} {as bs : List D} (ra : Rep K cA F H0 (.tup as) (.ref a) no) (rb : Rep K cA F H0 (.tup bs) (.ref b) no) : Runs K cA F H0 (RZ.ItzT K a b) (zipD as bs) := by
  refine ⟨fun i d H F1 A1 hd st f k => ?_, fun i H F1 A1 hl st f k => ?_⟩
  · obtain ⟨da, db, ea, eb, rfl⟩ := zipD_get hd
    obtain ⟨vs, sa, r1⟩ := tup_at ra f k
    obtain ⟨ws, sb, r2⟩ := tup_at rb f k
    obtain ⟨v, A2, e1, z1, q1⟩ := r1.get ea
    obtain ⟨w, A3, e2, z2, q2⟩ := r2.get eb
    refine ⟨⟨vs, ws, v, w, sa, sb, e1, e2⟩, fun x H' ⟨T, y1, y2, ex, nT, eH, g1, g2⟩ => ?_⟩
    have g1 := g1 vs sa
    have g2 := g2 ws sb
    rw [e1] at g1
    rw [e2] at g2
    cases g1
    cases g2
    subst ex
    subst eH
    exact tup_turn st nT (Reps.two (q1.move (fun _ y => y) (fun _ _ _ e => e) z1) (q2.move (fun _ y => y) (fun _ _ _ e => e) z2))
  · obtain ⟨vs, sa, r1⟩ := tup_at ra f k
    obtain ⟨ws, sb, r2⟩ := tup_at rb f k
    exact ⟨vs, ws, sa, sb, by rw [← r1.len, ← r2.len]; exact zipD_len hl⟩
def enumD : Nat → List D → List D
  | _, [] => []
  | n, d :: ds => .tup [.int n, d] :: enumD (n + 1) ds
theorem enumD_get : ∀ {ds : List D} {n i : Nat} {d : D}, (enumD n ds)[i]? = some d → ∃ a, ds[i]? = some a ∧ d = .tup [.int (n + i : Nat), a]
  | [], _, _, _, h => by simp [enumD] at h
  | a :: ds, n, 0, d, h => by simp [enumD] at h; exact ⟨a, rfl, h.symm⟩
  | a :: ds, n, i + 1, d, h => by
    obtain ⟨b, e1, e2⟩ := enumD_get (ds := ds) (n := n + 1) (i := i) (by simpa [enumD] using h)
    exact ⟨b, by simpa using e1, by rw [e2, show n + 1 + i = n + (i + 1) by omega]⟩
theorem enumD_len : ∀ {ds : List D} {n : Nat}, (enumD n ds).length = ds.length
  | [], _ => rfl
  | a :: ds, n => congrArg (· + 1) (enumD_len (ds := ds) (n := n + 1))
theorem runs_enum {a : Addr} {as : List D} (ra : Rep K cA F H0 (.lst false as) (.ref a) no) : Runs K cA F H0 (Ite K a) (enumD 0 as) := by
  refine ⟨fun i d H F1 A1 hd st f k => ?_, fun i H F1 A1 hl st f k => ?_⟩
  · obtain ⟨da, ea, rfl⟩ := enumD_get hd
    obtain ⟨vs, sa, r1⟩ := list_at ra f k
    obtain ⟨v, A2, e1, z1, q1⟩ := r1.get ea
    refine ⟨⟨vs, v, sa, e1⟩, fun x H' ⟨T, y1, ex, nT, eH, g1⟩ => ?_⟩
    have g1 := g1 vs sa
    rw [e1] at g1
    cases g1
    subst ex
    subst eH
    exact tup_turn st nT (Reps.two (by rw [Nat.zero_add]; rfl) (q1.move (fun _ y => y) (fun _ _ _ e => e) z1))
  · obtain ⟨vs, sa, r1⟩ := list_at ra f k
    exact ⟨vs, sa, by rw [← r1.len, ← enumD_len (n := 0)]; exact hl⟩
def chars (x : Str) : List D := x.cps.toList.map fun c => .str ⟨#[c]⟩
theorem runs_str {x : Str} : Runs K cA F H0 (Its x) (chars x) := by
  have len : (chars x).length = x.cps.size := by simp [chars]
  refine ⟨fun i d H F1 A1 hd st f k => ?_, fun i H F1 A1 hl st f k => ?_⟩
  · have hi : i < x.cps.size := by have := (List.getElem?_eq_some_iff.mp hd).1; rw [len] at this; exact this
    refine ⟨hi, fun v H' ⟨eH, c, ec, ev⟩ => ?_⟩
    subst eH
    subst ev
    refine ⟨fun _ _ e => e, F1, Step.refl st, ?_⟩
    unfold chars at hd
    rw [List.getElem?_map, Array.getElem?_toList, ec] at hd
    cases hd
    rfl
  · rw [len] at hl
    exact hl
end
def oZip : List D → Ro → R (List D)
  | [.lst _ as, .lst _ bs], ρ => .ok (zipD (fzs as) (fzs bs)) ρ
  | [.tup as, .tup bs], ρ => .ok (zipD (fzs as) (fzs bs)) ρ
  | _, _ => .bad
def oEnum : List D → Ro → R (List D)
  | [.lst _ as], ρ => .ok (enumD 0 (fzs as)) ρ
  | _, _ => .bad
def oChars : D → Ro → R (List D)
  | .str x, ρ => .ok (chars x) ρ
  | _, _ => .bad
section
variable {X : Cx} {L : Lc} {pos p tpos : Pos} {tg e e2 : Expr} {elts : List Expr} {kk : Nat} {m : Ro → R D} {ms : Ro → R (List D)}
theorem fin_it {K : Frag} {F A : FP} {H : Hp} {σ : L2.St} {Q : It → Hp → Prop} {ρ1 : Ro} {H1 : Hp} {F1 A1 B1 : FP} {J : It} {ds : List D} (s : Step F A H F1 (un A1 B1) H1) (dj : Dj A1 B1) (en1 : EnvL K L F1 H1 ρ1 σ A1) (po : PostI K L F A H σ Q (.ok ds ρ1)) (run : Runs K L.cA (un F1 B1) H1 J ds) : Q J H1 :=
  po J H1 (un F1 B1) A1 (s.trans (frz_step s.sta dj)) (en1.move (fun _ x => .inl x) (fun _ _ _ e => e) fun _ x => x) run
theorem di_zip (ha : DA X L [e, e2] ms) (hm : X.mg "zip" = none) (hg : Gl X "zip" := by rfl) (h1 : starEach [e, e2] X.env = (false, eval e X.env) :: starEach [e2] X.env := by rfl) (h2 : (backTo pos (starEach [e2] X.env)).any (·.1) = false := by rfl) :
    DI X L (.Tuple elts kk tpos) (.Call (.Name "zip" p) [e, e2] [] pos) (fun ρ => (ms ρ).bind oZip) := ⟨pi_to (RZ.pi_zipA hg hm ha.pa h1 h2) fun σ H Q ⟨ρ, F, A, st, en, po⟩ => by
  refine ⟨ρ, F, A, st, en, ?_⟩
  have po : PostI X.K L F A H σ Q ((ms ρ).bind oZip) := po
  cases er : ms ρ with
  | bad => rw [er] at po; exact po
  | exc x ρ1 => rw [er] at po; exact po
  | ok a ρ1 =>
    rw [er] at po
    intro vs H1 F1 A1 B1 s dj en1 q
    have po : PostI X.K L F A H σ Q (oZip a ρ1) := po
    unfold oZip at po
    split at po
    · obtain ⟨v1, _, _, _, rfl, s1, r1, v2, _, _, _, rfl, s2, r2, rfl⟩ := q
      have q1 := r1.fz (F' := un F1 B1) (fun b x => .inr (s1.l b x)) (fun _ x => .inl x)
      have q2 := r2.fz (F' := un F1 B1) (fun b x => .inr (s1.r b (s2.l b x))) (fun _ x => .inl x)
      obtain ⟨a1, us1, rfl, t1, _⟩ := id q1
      obtain ⟨a2, us2, rfl, t2, _⟩ := id q2
      exact ⟨a1, a2, us1, us2, rfl, .inl ⟨t1.sq, t2.sq, fin_it s dj en1 po (runs_zipL q1 q2)⟩⟩
    · obtain ⟨v1, _, _, _, rfl, s1, r1, v2, _, _, _, rfl, s2, r2, rfl⟩ := q
      have q1 := r1.fz (F' := un F1 B1) (fun b x => .inr (s1.l b x)) (fun _ x => .inl x)
      have q2 := r2.fz (F' := un F1 B1) (fun b x => .inr (s1.r b (s2.l b x))) (fun _ x => .inl x)
      obtain ⟨a1, us1, rfl, t1, _⟩ := id q1
      obtain ⟨a2, us2, rfl, t2, _⟩ := id q2
      exact ⟨a1, a2, us1, us2, rfl, .inr ⟨t1.sq, t2.sq, fin_it s dj en1 po (runs_zipT q1 q2)⟩⟩
    · exact po.elim⟩
theorem di_enum (ha : DA X L [e] ms) (hm : X.mg "enumerate" = none) (hg : Gl X "enumerate" := by rfl) (h1 : starEach [e] X.env = [(false, eval e X.env)] := by rfl) : DI X L (.Tuple elts kk tpos) (.Call (.Name "enumerate" p) [e] [] pos) (fun ρ => (ms ρ).bind oEnum) := ⟨pi_to (pi_enum hg hm ha.pa h1) fun σ H Q ⟨ρ, F, A, st, en, po⟩ => by
  refine ⟨ρ, F, A, st, en, ?_⟩
  have po : PostI X.K L F A H σ Q ((ms ρ).bind oEnum) := po
  cases er : ms ρ with
  | bad => rw [er] at po; exact po
  | exc x ρ1 => rw [er] at po; exact po
  | ok a ρ1 =>
    rw [er] at po
    intro vs H1 F1 A1 B1 s dj en1 q
    have po : PostI X.K L F A H σ Q (oEnum a ρ1) := po
    unfold oEnum at po
    split at po
    · obtain ⟨v1, _, _, _, rfl, s1, r1, rfl⟩ := q
      have q1 := r1.fz (F' := un F1 B1) (fun b x => .inr (s1.l b x)) (fun _ x => .inl x)
      obtain ⟨a1, us1, rfl, t1, _⟩ := id q1
      exact ⟨a1, us1, rfl, t1.sq, fin_it s dj en1 po (runs_enum q1)⟩
    · exact po.elim⟩
theorem di_str (he : DE X L e m) : DI X L tg e (fun ρ => (m ρ).bind oChars) := ⟨pi_to (pi_str he.pe) fun σ H Q ⟨ρ, F, A, st, en, po⟩ => by
  refine ⟨ρ, F, A, st, en, ?_⟩
  have po : PostI X.K L F A H σ Q ((m ρ).bind oChars) := po
  cases er : m ρ with
  | bad => rw [er] at po; exact po
  | exc x ρ1 => rw [er] at po; exact po
  | ok d ρ1 =>
    rw [er] at po
    intro v H1 F1 A1 B1 s dj en1 q
    have po : PostI X.K L F A H σ Q (oChars d ρ1) := po
    cases d <;> first | exact po.elim | skip
    rename_i x _
    exact ⟨x, q, fin_it s dj en1 po runs_str⟩⟩
end
end T
end

section
set_option Elab.async false
set_option linter.all false
set_option maxRecDepth 100000
set_option maxHeartbeats 1000000
namespace T
open PySem PySem.Spec PyProof.Rows L2
/-! ### repr of data -/
theorem call_repr {X : Cx} (hg : X.A.guards = some []) (hu : X.A.units + 64 < cLine) : CallR X (.builtin "repr") (fun xs H Q => ∃ a d, xs = [.ref a] ∧ Dp X.K H (.ref a) d ∧ d.showable = true ∧ d.hasDict = false ∧ d.depth ≤ 60 ∧ d.shown.length ≤ sizeLine ∧ Q (.str d.shown) H) := by
  intro pins s σ H xs us Q I rs ⟨a, d, ex, hd, sh, nd, dp, sz, q⟩
  subst ex
  match us, rs with
  | [u], .cons r .nil =>
    cases (show u = Value.ref a from r)
    obtain ⟨as, rd⟩ := Dp.reads I d (.ref a) (.ref a) hd rfl
    refine repr_of_reads' rd sh (fun z => by rw [nd] at z; cases z) hg (by omega) (fun _ _ e => e) (fun h' u tk k => ?_) sz
    exact ⟨.str d.shown, H, I.kept k, ⟨u, rfl⟩, q⟩
def oRepr : List D → Ro → R D
  | [d], ρ => (match toPy d with
    | some x => if x.showable && !x.hasDict && decide (x.depth ≤ 60) && szOk x.shown.length then (match d with
      | .tup _ => .ok (.str x.shown) ρ
      | .lst _ _ => .ok (.str x.shown) ρ
      | _ => .bad) else .bad
    | none => .bad)
  | _, _ => .bad
theorem on_repr {K : Frag} {L : Lc} : OpN K L (fun xs H Q => ∃ a d, xs = [V.ref a] ∧ Dp K H (.ref a) d ∧ d.showable = true ∧ d.hasDict = false ∧ d.depth ≤ 60 ∧ d.shown.length ≤ sizeLine ∧ Q (.str d.shown) H) oRepr := by
  intro F A B H σ Q ds vs ρ st dj en q p
  unfold oRepr at p
  split at p
  · rename_i d
    obtain ⟨v, _, _, _, rfl, _, r1, rfl⟩ := q
    split at p
    · rename_i x ex
      split at p
      · rename_i hc
        simp only [Bool.and_eq_true, Bool.not_eq_true', decide_eq_true_eq] at hc
        obtain ⟨⟨⟨h1, h2⟩, h3⟩, h4⟩ := hc
        have dd := Rep.dp ex r1
        have go : ∀ a, v = .ref a → Post K L rE F (un A B) H σ Q (.ok (.str x.shown) ρ) → ∃ a d, [v] = [V.ref a] ∧ Dp K H (.ref a) d ∧ d.showable = true ∧ d.hasDict = false ∧ d.depth ≤ 60 ∧ d.shown.length ≤ sizeLine ∧ Q (.str d.shown) H := fun a ev p => by
          subst ev
          exact ⟨a, x, rfl, dd, h1, h2, h3, of_decide_eq_true h4, p.leaf rfl st (fun b y => .inl y) en⟩
        split at p
        · obtain ⟨a, _, ev, _⟩ := r1
          exact go a ev p
        · rename_i o _
          obtain ⟨a, _, _, ev, _⟩ := r1.lst
          exact go a ev p
        · exact p.elim
      · exact p.elim
    · exact p.elim
  · exact p.elim
section
variable {X : Cx} {L : Lc} {pos p : Pos} {e : Expr} {es : List Expr} {ms : Ro → R (List D)}
theorem de_repr {k : Nat} (hr : Roo k X.A) (hm : X.mg "repr" = none) (ha : DA X L (e :: es) ms) (hg : Gl X "repr" := by rfl) (he : starEach (e :: es) X.env = (false, eval e X.env) :: starEach es X.env := by rfl) (hpl : (backTo pos (starEach es X.env)).any (·.1) = false := by rfl) :
    DE X L (.Call (.Name "repr" p) (e :: es) [] pos) (mN oRepr ms) := de_callB (call_repr hr.gu (hu_ofR hr)) on_repr hm PyProof.Rows.Boot.repr ha hg (by decide) (by decide) he hpl
end
end T
end

section
set_option Elab.async false
set_option linter.all false
set_option maxRecDepth 100000
set_option maxHeartbeats 1000000
namespace T
open PySem PySem.Spec PyProof.Rows L2
/-! ### == and != by an own __eq__ -/
def strKs (es : Array DictEntry) : Bool := es.toList.all fun e => match e.key with
  | .str _ _ => true
  | _ => false
theorem strKs_ok {es : Array DictEntry} (h : strKs es = true) : StrKeys es := fun e he => by
  have := List.all_eq_true.mp h e (by simpa using he)
  split at this
  · rename_i n t q; exact ⟨n, t, q⟩
  · cases this
structure OwnQ (K : PySem.W.Frag) (C f : Addr) : Prop where
  eqI : PySem.W.findIn K (.ref C) (Str.ofString "__eq__") = some (some (.ref f))
  fn : PySem.W.isFn K (.ref f) = true
  ob : ∃ nm q N bs hdct sn sub ab col dd k0 k1 k2 k3 k5 newId oc od es ep sl, K.lookup C = some (excClassObj nm q C N bs [.type "object"] hdct sn sub ab col dd k0 k1 k2 k3 k5 newId) ∧ K.lookup N = some ⟨oc, od, .dict es ep, sl⟩ ∧ strKs es = true ∧ nsFind es (Str.ofString "__eq__") = some (.ref f) ∧ nsFind es (Str.ofString "__ne__") = none
section
variable {X : Cx} {k : Nat} {f C : Addr} {fd : FuncData} {ps : List Str} {sp : Sp}
theorem run_in1 {CX : CXT} {pins : List (Addr × Obj)} {σ : L2.St} {H : Hp} {s : Shared} {Q : VK} {us : List Value} {vs : List V} {E : XK} (F : FnG X.prog X.w X.K X.mg X.base CX k f fd ps sp) (hr : Roo (k + 1) X.A) (hb : L2.Binds X.K fd ps []) (hx : PassesAt CX X σ E) (I : L2.Inv X pins σ H s) (r : Vals vs us) (h : sp vs H Q E) :
    wpAny (model X.prog X.w) X.A.in1 (call (.ref f) us) (EP X pins σ Q) X.xe s := by
  have hl : us.length = ps.length := by rw [← r.length]; exact F.len _ _ _ _ h
  have e := I.env0
  have e1 : Env0 X.prog X.w X.K X.mg X.base X.A.in1 X.stack s H := ⟨e.frames, e.mod, e.bs, e.bsz, e.funs, e.frf, e.hok, e.bare⟩
  have hb' := hb s us I.kIn (by rw [List.append_nil]; exact hl)
  rw [List.append_nil] at hb'
  refine wpAny_call (codeAny_mono (F.run X.A.in1 X.stack s H { pos := us } us vs Q E ⟨hr.rm.in1, hr.gu⟩ e1 hb' r h) fun r s' hq => ?_)
  cases r with
  | error e => exact hx pins H s e s' I hq
  | ok fl =>
    cases fl with
    | ret u => exact I.after hq
    | next => exact False.elim hq
    | brk => exact False.elim hq
    | cont => exact False.elim hq
def rOwnQ (C : Addr) (sp : Sp) (n : Bool → Bool) : R2 := fun x y H Q => ∃ a b dx dy fx fy, x = .ref a ∧ y = .ref b ∧ H a = some (.ins C dx fx) ∧ H b = some (.ins C dy fy) ∧ sp [x, y] H (fun v H' => ∃ t, v = .bl t ∧ Q (.bl (n t)) H') fun _ _ _ => False
theorem no_pass {σ : L2.St} : PassesAt (L2.CX X.prog X.w) X σ fun _ _ _ => False := fun pins H s er s' _ h => by obtain ⟨_, _, _, _, _, _, _, _, _, _, _, _, z⟩ := h; exact z.elim
theorem ins_get {pins : List (Addr × Obj)} {σ : L2.St} {H : Hp} {s : Shared} {a dx : Addr} {fs : List (Str × V)} (I : L2.Inv X pins σ H s) (e : H a = some (.ins C dx fs)) : s.heap.get? a = some (PySem.W.instObj C dx) ∧ ∃ o, s.heap.get? dx = some o := by
  have q := I.hok a _ e
  simp only [ObjOk] at q
  obtain ⟨_, _, _, h, mA, ⟨o, es, ep, h1, _⟩, _⟩ := q
  exact ⟨h, o, h1⟩
theorem op_eqOwn (Q : OwnQ X.K C f) (Fe : FnG X.prog X.w X.K X.mg X.base (L2.CX X.prog X.w) k f fd ps sp) (hr : Roo (k + 1) X.A) (hb : L2.Binds X.K fd ps []) : OpR X (compareOp .Eq) (rOwnQ C sp id) := by
  rintro pins s σ H x y v u Qk I rx ry ⟨a, b, dx, dy, fx, fy, rfl, rfl, ea, eb, q⟩
  cases (show v = Value.ref a from rx)
  cases (show u = Value.ref b from ry)
  obtain ⟨ga, oa, gd⟩ := ins_get I ea
  obtain ⟨gb, _, _⟩ := ins_get I eb
  obtain ⟨L, hF⟩ : ∃ L, ∃ m, Fr X.base L s.heap m := ⟨_, I.fr⟩
  obtain ⟨m, fr⟩ := hF
  show wpAny (model X.prog X.w) X.A (richCompare .Eq (.ref a) (.ref b)) (EP X pins σ Qk) X.xe s
  refine PySem.W.cmp_K (tb := .ref C) (by have := hu_ofR hr; omega) fr I.ok.mod.kin (od := some oa) ⟨ga, rfl, rfl, gd⟩ (fun A Q E s k q => wpAny_typeOf_ref (k b _ gb) q) (by simp [PySem.W.notFirst]) Q.eqI Q.fn ?_
  refine wpAny_mono (run_fnG (E := fun _ _ _ _ => False) Fe (hr.mono (Nat.le_succ k)) hb .nil no_pass I (vs := [.ref a, .ref b]) (.cons rfl (.cons rfl .nil)) q) (fun w s' h => ?_) fun e s' h => h
  obtain ⟨v', H', I', rv, t, ev, qq⟩ := h
  subst ev
  cases (show w = Value.bool t from rv)
  exact ⟨.bl t, H', I', rfl, qq⟩
theorem op_neOwn (Q : OwnQ X.K C f) (Fe : FnG X.prog X.w X.K X.mg X.base (L2.CX X.prog X.w) k f fd ps sp) (hr : Roo (k + 1) X.A) (hb : L2.Binds X.K fd ps []) : OpR X (compareOp .NotEq) (rOwnQ C sp (!·)) := by
  rintro pins s σ H x y v u Qk I rx ry ⟨a, b, dx, dy, fx, fy, rfl, rfl, ea, eb, q⟩
  cases (show v = Value.ref a from rx)
  cases (show u = Value.ref b from ry)
  obtain ⟨ga, oa, gd⟩ := ins_get I ea
  obtain ⟨gb, _, _⟩ := ins_get I eb
  obtain ⟨nm, q0, N, bs, hdct, sn, sub, ab, col, dd, k0, k1, k2, k3, k5, newId, oc, od, es, ep, sl, hC, hN, sk, e1, e2⟩ := Q.ob
  have hf := Q.fn
  have tf : ∃ of, s.heap.get? f = some of ∧ of.cls = .type "function" := by
    unfold PySem.W.isFn PySem.W.typeIn at hf
    simp only at hf
    cases e : X.K.lookup f with
    | none => rw [e] at hf; simp at hf
    | some o =>
      rw [e] at hf
      simp at hf
      exact ⟨o, I.kIn f o e, hf⟩
  obtain ⟨of, gf, cf⟩ := tf
  have own : Heap.OwnEqNoNe s.heap a C f "object" [.type "object"] := ⟨_, of, nm, q0, N, bs, hdct, sn, sub, ab, col, dd, k0, k1, k2, k3, k5, newId, fun x => nsFind es x, _, ga, rfl, I.kIn C _ hC, ⟨_, es, ep, I.kIn N _ hN, rfl, strKs_ok sk, fun _ => rfl⟩, e1, gf, cf, F.cmp_object.mro, F.cmp_object.eq.lookup, e2⟩
  refine compareOp_ne_ownEq F.cmp_object own gb rfl (by have := hu_ofR hr; omega) ?_
  refine wpAny_mono (run_in1 (E := fun _ _ _ => False) (vs := [.ref a, .ref b]) Fe hr hb no_pass I (.cons rfl (.cons rfl .nil)) q) (fun w s' h => ?_) fun e s' h => h
  obtain ⟨v', H', I', rv, t, ev, qq⟩ := h
  subst ev
  cases (show w = Value.bool t from rv)
  exact ⟨t, rfl, .bl (!t), H', I', rfl, qq⟩
end
def oOwn (c : Cid) (g : List D → RF) (n : Bool → Bool) : D → D → Ro → R D := fun x y ρ => match x, y with
  | .ins _ c1 _ _, .ins _ c2 _ _ => if c1 = c ∧ c2 = c then (match g [x, y] with
    | .ok (.bl b) [] => .ok (.bl (n b)) ρ
    | _ => .bad) else .bad
  | _, _ => .bad
theorem op2_own {K : Frag} {L : Lc} {c : Cid} {g : List D → RF} {n : Bool → Bool} : Op2 K L (rOwnQ (L.cA c) (spT K L.cA 2 [] g) n) (oOwn c g n) := by
  intro F A B1 B2 H σ Q d1 d2 v1 v2 ρ st dj dj' en q1 q2 p
  unfold oOwn at p
  split at p
  · rename_i o1 c1 f1 x1 o2 c2 f2 x2
    split at p
    · rename_i hc
      obtain ⟨rfl, rfl⟩ := hc
      obtain ⟨a, dx, vs1, A1, rfl, ea, _, _, _⟩ := id q1.ins
      obtain ⟨b, dy, vs2, A2, rfl, eb, _, _, _⟩ := id q2.ins
      refine ⟨a, b, dx, dy, _, _, rfl, rfl, ea, eb, rfl, [_, _], F, un B1 B2, st.sub fun b y => y.elim .inr fun y => .inl (.inr y), ⟨_, _, B1, B2, rfl, ⟨fun _ y => .inl y, fun _ y => .inr y, fun b y z => dj' b (.inr z) y⟩, q1, _, _, B2, no, rfl, ⟨fun _ y => y, fun _ y => y.elim, fun _ _ y => y⟩, q2, rfl⟩, ?_⟩
      split at p
      · rename_i bb eg
        rw [eg]
        intro v H' F' A' B s dj3 rs r
        cases (show v = V.bl bb from r)
        refine ⟨bb, rfl, ?_⟩
        have s1 := (Step.refl (st.sub (A' := un (un B1 B2) A) fun b y => y.elim (fun y => y.elim .inr fun y => .inl (.inr y)) fun y => .inl (.inl y))).seq (fun b y z => y.elim (dj' b (.inl z)) (dj b z)) s
        obtain ⟨s2, _, kb⟩ := s1
        have s3 : Step F (un (un A B2) B1) H F' A H' := (s2.pre fun b y => y.elim (fun y => y.elim .inr fun y => .inl (.inr y)) fun y => .inl (.inl y)).sub fun b y => .inr y
        have p3 := p.step s3
        exact p3.leaf rfl s3.sta (fun b y => y) (en.move s.fr kb fun _ y => y)
      · exact p.elim
    · exact p.elim
  · exact p.elim
section
variable {X : Cx} {L : Lc} {k : Nat} {f : Addr} {fd : FuncData} {ps : List Str} {c : Cid} {g : List D → RF} {b : Expr}
theorem cr_eqOwn (Q : OwnQ X.K (L.cA c) f) (Fe : FnT X.prog X.w X.K X.mg X.base L.cA k f fd ps [] g) (hr : Roo (k + 1) X.A) (hb : L2.Binds X.K fd ps []) (hn : ps.length = 2 := by rfl) : CmpR X L .Eq b (oOwn c g id) := ⟨⟨_, op_eqOwn (sp := spT X.K L.cA 2 [] g) Q (hn ▸ Fe) hr hb, op2_own⟩, nomark _⟩
theorem cr_neOwn (Q : OwnQ X.K (L.cA c) f) (Fe : FnT X.prog X.w X.K X.mg X.base L.cA k f fd ps [] g) (hr : Roo (k + 1) X.A) (hb : L2.Binds X.K fd ps []) (hn : ps.length = 2 := by rfl) : CmpR X L .NotEq b (oOwn c g (!·)) := ⟨⟨_, op_neOwn (sp := spT X.K L.cA 2 [] g) Q (hn ▸ Fe) hr hb, op2_own⟩, nomark _⟩
end
end T
end

section
set_option Elab.async false
set_option linter.all false
set_option maxRecDepth 100000
set_option maxHeartbeats 1000000
namespace T
open PySem PySem.Spec PyProof.Rows L2
/-! ### calls with keywords, in the order of the parameters -/
def Kb (K : PySem.W.Frag) (fd : FuncData) (ps : List Str) (n : Nat) (ks : List Str) : Prop := ∀ (s : Shared) (us ws : List Value), K.In s.heap → us.length = n → ws.length = ks.length → BindsTo s fd { pos := us, kw := ks.zip ws } (ps.zip (us ++ ws))
section
variable {X : Cx} {CX : CXT} {k n : Nat} {f : Addr} {fd : FuncData} {ps ks : List Str} {sp : Sp} {E : L2.St → XK}
theorem run_fnK {pins : List (Addr × Obj)} {σ : L2.St} {H : Hp} {s : Shared} {Q : VK} {us ws : List Value} {vs zs : List V} (F : FnG X.prog X.w X.K X.mg X.base CX k f fd ps sp) (hr : Roo k X.A) (hb : Kb X.K fd ps n ks) (hx : PassesAt CX X σ (E σ)) (I : L2.Inv X pins σ H s) (r : Vals vs us) (rz : Vals zs ws) (l1 : vs.length = n) (l2 : zs.length = ks.length) (h : sp (vs ++ zs) H Q (E σ)) :
    wpAny (model X.prog X.w) X.A (call (.ref f) us (ks.zip ws)) (EP X pins σ Q) X.xe s := by
  refine wpAny_call (codeAny_mono (F.run X.A X.stack s H { pos := us, kw := ks.zip ws } (us ++ ws) (vs ++ zs) Q (E σ) hr I.env0 (hb s us ws I.kIn (by rw [← r.length]; exact l1) (by rw [← rz.length]; exact l2)) (r.append rz) h) fun r s' hq => ?_)
  cases r with
  | error e => exact hx pins H s e s' I hq
  | ok fl =>
    cases fl with
    | ret u => exact I.after hq
    | next => exact False.elim hq
    | brk => exact False.elim hq
    | cont => exact False.elim hq
def tCallK (n m : Nat) (sp : Sp) (E : L2.St → XK) (t tk : TA) : TE := fun σ H Q => t σ H fun vs H1 => tk σ H1 fun zs H2 => vs.length = n ∧ zs.length = m ∧ sp (vs ++ zs) H2 Q (E σ)
theorem pe_callK0 {x : Str} {p pos : Pos} {kws : List Keyword} {tk : TA} (F : FnG X.prog X.w X.K X.mg X.base CX k f fd ps sp) (hr : Roo k X.A) (hg : Gl X x) (hm : X.mg x = some (.ref f)) (hk : PySem.W.keepIn X.K (.ref f) = true) (hb : Kb X.K fd ps 0 ks) (hx : ∀ σ, PassesAt CX X σ (E σ)) (hkw : PK X kws tk)
    (hall : ((backToKw pos (keywordEach kws X.env)).all fun x => x.1.isSome) = true) (hks : (backToKw pos (keywordEach kws X.env)).filterMap (fun x => x.1) = ks) (hdb : (x == ("__debug__" : Str)) = false) (hpl : (((backTo pos (starEach [] X.env)).any fun x => x.1) || (backToKw pos (keywordEach kws X.env)).any fun x => x.1.isNone) = false) :
    PE X (.Call (.Name x p) [] kws pos) (tCallK 0 ks.length sp E tNil tk) := ⟨fun pins s σ H Q I h => by
  refine wpAny_Call_Name_kw (ld_glob I hg hm ?_ hdb)
  refine PySem.W.callWith_KW0 (first := []) I.ok.mod.kin hk hall (thn (hkw.run pos pins s σ H _ I h) fun ws s2 ⟨zs, H2, I2, rz, l1, l2, q⟩ => ⟨I2.kIn, ?_⟩) hpl
  rw [hks]
  exact run_fnK (us := []) (vs := []) F hr hb (hx σ) I2 .nil rz l1 l2 q⟩
theorem pe_callK {x : Str} {p pos : Pos} {e : Expr} {es : List Expr} {kws : List Keyword} {t tk : TA} (F : FnG X.prog X.w X.K X.mg X.base CX k f fd ps sp) (hr : Roo k X.A) (hg : Gl X x) (hm : X.mg x = some (.ref f)) (hk : PySem.W.keepIn X.K (.ref f) = true) (hb : Kb X.K fd ps n ks) (hx : ∀ σ, PassesAt CX X σ (E σ)) (ha : PA X (e :: es) t) (hkw : PK X kws tk)
    (hall : ((backToKw pos (keywordEach kws X.env)).all fun x => x.1.isSome) = true) (hks : (backToKw pos (keywordEach kws X.env)).filterMap (fun x => x.1) = ks) (hdb : (x == ("__debug__" : Str)) = false) (he : starEach (e :: es) X.env = (false, eval e X.env) :: starEach es X.env) (hpl : (((backTo pos (starEach (e :: es) X.env)).any fun x => x.1) || (backToKw pos (keywordEach kws X.env)).any fun x => x.1.isNone) = false) :
    PE X (.Call (.Name x p) (e :: es) kws pos) (tCallK n ks.length sp E t tk) := ⟨fun pins s σ H Q I h => by
  refine wpAny_Call_Name_kw (ld_glob I hg hm ?_ hdb)
  refine PySem.W.callWith_KW (first := []) I.ok.mod.kin hk hall (thn (ha.run pos pins s σ H _ I h) fun us s1 ⟨vs, H1, I1, r, q⟩ => thn (hkw.run pos pins s1 σ H1 _ I1 q) fun ws s2 ⟨zs, H2, I2, rz, l1, l2, q⟩ => ⟨I2.kIn, ?_⟩) hpl he
  rw [hks]
  exact run_fnK F hr hb (hx σ) I2 r rz l1 l2 q⟩
end
structure DK (X : Cx) (L : Lc) (kws : List Keyword) (m : Ro → R (List D)) : Prop where
  pk : PK X kws (lft X.K L rA m)
theorem pk_to {X : Cx} {kws : List Keyword} {t t' : TA} (h : PK X kws t) (i : ∀ σ H Q, t' σ H Q → t σ H Q) : PK X kws t' := ⟨fun pos pins s σ H Q I q => h.run pos pins s σ H Q I (i σ H Q q)⟩
section
variable {X : Cx} {L : Lc} {pos p kpos : Pos} {x : Str} {e : Expr} {es : List Expr} {kws : List Keyword} {nm : Option Str} {m : Ro → R D} {ms mk : Ro → R (List D)} {k n : Nat} {f : Addr} {fd : FuncData} {ps ks : List Str} {g : List D → RF}
theorem dk_nil : DK X L [] mNil := ⟨pk_to pk_nil fun σ H Q ⟨ρ, F, A, st, en, p⟩ => p.val (A1 := A) st (fun b x => x) en rfl⟩
theorem dk_cons (ha : DE X L e m) (hr : DK X L kws ms) : DK X L (⟨nm, e, kpos⟩ :: kws) (mCons m ms) := ⟨pk_to (pk_cons ha.pe hr.pk) fun σ H Q h => by
  refine lft_bind h fun v H1 F1 A1 B1 d ρ1 st dj en q p => ?_
  refine lft_rest st dj en p fun vs H2 F2 A2 B2 ds ρ2 st2 dj2 dj2' en2 q2 fr kb p2 => ?_
  exact p2.ret (A1 := A2) (B := un B1 B2) st2 (fun b x => x.elim (fun x => .inl (.inl x)) fun x => x.elim .inr fun x => .inl (.inr x)) (fun b x y => y.elim (dj2' b (.inl x)) (dj2 b x)) en2 ⟨v, vs, B1, B2, rfl, ⟨fun b x => .inl x, fun b x => .inr x, fun b x y => dj2' b (.inr y) x⟩, q.move fr kb fun _ x => x, q2⟩⟩
def mCallK (n m : Nat) (g : List D → RF) (ms mk : Ro → R (List D)) : Ro → R D := fun ρ => (ms ρ).bind fun ds ρ1 => (mk ρ1).bind fun zs ρ2 => if ds.length = n ∧ zs.length = m then afterC [] ρ2 (g (ds ++ zs)) else .bad
theorem lft_callK {K : Frag} {N m : Nat} (hn : n + m = N) : ∀ σ H Q, lft K L rE (mCallK n m g ms mk) σ H Q → tCallK n m (spT K L.cA N [] g) (fun σ => WE L.W σ) (lft K L rA ms) (lft K L rA mk) σ H Q := by
  intro σ H Q h
  refine lft_bind h fun vs H1 F1 A1 B1 ds ρ1 st dj en q p => ?_
  refine lft_rest st dj en p fun zs H2 F2 A2 B2 es ρ2 st2 dj2 dj2' en2 q2 fr kb p2 => ?_
  split at p2
  · rename_i hl
    obtain ⟨h1, h2⟩ := hl
    refine ⟨by rw [← q.len]; exact h1, by rw [← q2.len]; exact h2, ?_⟩
    have st3 : Sta F2 (un A2 (un B1 B2)) H2 := st2.sub fun b y => y.elim (fun y => .inl (.inl y)) fun y => y.elim .inr fun y => .inl (.inr y)
    have r := (q.move fr kb fun _ y => y).append q2 fun b y z => dj2' b (.inr z) y
    refine spT_of (ls := []) st3 (fun b y z => z.elim (dj2' b (.inl y)) (dj2 b y)) en2 r (fun i j v e => by simp at e) ?_ rfl (Post.step ((Step.refl st2).sub fun b y => y.elim (fun y => .inl (.inl y)) fun y => y.elim .inr fun y => .inl (.inr y)) p2)
    rw [List.length_append, ← q.len, ← q2.len, h1, h2, hn]
  · exact p2.elim
/-- f(a, .., x=b, ..) -/
theorem de_callK (F : FnT X.prog X.w X.K X.mg X.base L.cA k f fd ps [] g) (hr : Roo k X.A) (tk : Takes X L.W) (hm : X.mg x = some (.ref f)) (hk : PySem.W.keepIn X.K (.ref f) = true) (hb : Kb X.K fd ps n ks) (ha : DA X L (e :: es) ms) (hkw : DK X L kws mk) (hn : n + ks.length = ps.length := by rfl) (hg : Gl X x := by rfl) (hdb : (x == ("__debug__" : Str)) = false := by decide)
    (hall : ((backToKw pos (keywordEach kws X.env)).all fun x => x.1.isSome) = true := by rfl) (hks : (backToKw pos (keywordEach kws X.env)).filterMap (fun x => x.1) = ks := by rfl) (he : starEach (e :: es) X.env = (false, eval e X.env) :: starEach es X.env := by rfl) (hpl : (((backTo pos (starEach (e :: es) X.env)).any fun x => x.1) || (backToKw pos (keywordEach kws X.env)).any fun x => x.1.isNone) = false := by rfl) :
    DE X L (.Call (.Name x p) (e :: es) kws pos) (mCallK n ks.length g ms mk) := ⟨pe_to (pe_callK (E := fun σ => WE L.W σ) F hr hg hm hk hb (fun σ => passAt tk σ) ha.pa hkw.pk hall hks hdb he hpl) (lft_callK hn)⟩
theorem de_callK0 (F : FnT X.prog X.w X.K X.mg X.base L.cA k f fd ps [] g) (hr : Roo k X.A) (tk : Takes X L.W) (hm : X.mg x = some (.ref f)) (hk : PySem.W.keepIn X.K (.ref f) = true) (hb : Kb X.K fd ps 0 ks) (hkw : DK X L kws mk) (hn : 0 + ks.length = ps.length := by rfl) (hg : Gl X x := by rfl) (hdb : (x == ("__debug__" : Str)) = false := by decide)
    (hall : ((backToKw pos (keywordEach kws X.env)).all fun x => x.1.isSome) = true := by rfl) (hks : (backToKw pos (keywordEach kws X.env)).filterMap (fun x => x.1) = ks := by rfl) (hpl : (((backTo pos (starEach [] X.env)).any fun x => x.1) || (backToKw pos (keywordEach kws X.env)).any fun x => x.1.isNone) = false := by rfl) :
    DE X L (.Call (.Name x p) [] kws pos) (mCallK 0 ks.length g mNil mk) := ⟨pe_to (pe_callK0 (E := fun σ => WE L.W σ) F hr hg hm hk hb (fun σ => passAt tk σ) hkw.pk hall hks hdb hpl) fun σ H Q h => by
  obtain ⟨ρ, F0, A, st, en, po⟩ := lft_callK hn σ H Q h
  exact po.val (A1 := A) st (fun _ y => y) en rfl⟩
end
/-! ### what is never reached -/
theorem de_never {X : Cx} {L : Lc} {e : Expr} : DE X L e (fun _ => .bad) := ⟨⟨fun pins s σ H Q I ⟨ρ, F, A, st, en, p⟩ => p.elim⟩⟩
theorem ds_never {X : Cx} {L : Lc} {s : Stmt} : DS X L s (fun _ => .bad) := ⟨⟨fun pins s σ H D I ⟨ρ, F, A, st, en, p⟩ => p.elim⟩⟩
theorem db_never {X : Cx} {L : Lc} {s : List Stmt} : DB X L s (fun _ => .bad) := ⟨⟨fun pins s σ H D I ⟨ρ, F, A, st, en, p⟩ => p.elim⟩⟩
end T
end

section
set_option Elab.async false
set_option linter.all false
set_option maxRecDepth 100000
set_option maxHeartbeats 1000000
namespace T
open PySem PySem.Spec PyProof.Rows L2
section
variable {X : Cx} {L : Lc} {pos p px py pz pt pt2 : Pos} {x y z : Str} {a b c e : Expr} {es : List Expr} {ms : Ro → R (List D)} {kt k2 : Nat}
/-- x, y = a, b without a tuple -/
def mPar (i j : Nat) (ms : Ro → R (List D)) : Ro → RS := fun ρ => bS (ms ρ) fun ds ρ1 => match ds with
  | [d1, d2] => .nx ((ρ1.set i (some d1)).set j (some d2))
  | _ => .bad
def mPar3 (i j l : Nat) (ms : Ro → R (List D)) : Ro → RS := fun ρ => bS (ms ρ) fun ds ρ1 => match ds with
  | [d1, d2, d3] => .nx (((ρ1.set i (some d1)).set j (some d2)).set l (some d3))
  | _ => .bad
theorem ds_par (i j : Nat) (hN : X.N.Nodup) (ha : DA X L [a, b] ms) (hc : X.calm = true := by rfl) (hi : X.N[i]? = some x := by rfl) (hj : X.N[j]? = some y := by rfl) (hij : i ≠ j := by decide) (hx : X.env.scope.names.lookup x = some .local := by rfl) (hy : X.env.scope.names.lookup y = some .local := by rfl)
    (hw : swappedStores [.Tuple [.Name x px, .Name y py] kt pt] (.Tuple [a, b] k2 pt2) X.env = pure (some [x, y]) := by rfl) (hs : swapsWithSole [.Tuple [.Name x px, .Name y py] kt pt] (.Tuple [a, b] k2 pt2) pos.line X.env = pure false := by rfl) (h1 : unpin L i = true := by rfl) (h2 : unpin L j = true := by rfl) :
    DS X L (.Assign [.Tuple [.Name x px, .Name y py] kt pt] (.Tuple [a, b] k2 pt2) pos) (mPar i j ms) := ⟨ps_to (ps_par hc hN hi hj hij hx hy ha.pa hw hs) fun Dn σ H h => by
  refine lftS_bind h fun vs H1 F1 A1 B1 ds ρ1 st dj en q po => ?_
  split at po
  · obtain ⟨v, _, B2, B3, rfl, s, r, w, _, B4, B5, rfl, s2, r2, rfl⟩ := q
    refine ⟨v, w, rfl, ?_⟩
    have e1 := en.put (i := i) h1 r fun b y z => dj b y (s.l b z)
    have e2 := e1.put (i := j) h2 r2 fun b y z => y.elim (fun y => dj b y (s.r b (s2.l b z))) fun y => s.d b y (s2.l b z)
    exact nxP.here po st (fun b y => y.elim (fun y => y.imp id (s.l b)) fun y => .inr (s.r b (s2.l b y))) e2
  · exact po.elim⟩
theorem ds_par3 (i j l : Nat) (hN : X.N.Nodup) (ha : DA X L [a, b, c] ms) (hc : X.calm = true := by rfl) (hi : X.N[i]? = some x := by rfl) (hj : X.N[j]? = some y := by rfl) (hl : X.N[l]? = some z := by rfl) (hij : i ≠ j := by decide) (hil : i ≠ l := by decide) (hjl : j ≠ l := by decide)
    (hx : X.env.scope.names.lookup x = some .local := by rfl) (hy : X.env.scope.names.lookup y = some .local := by rfl) (hz : X.env.scope.names.lookup z = some .local := by rfl)
    (hw : swappedStores [.Tuple [.Name x px, .Name y py, .Name z pz] kt pt] (.Tuple [a, b, c] k2 pt2) X.env = pure (some [x, y, z]) := by rfl) (hs : swapsWithSole [.Tuple [.Name x px, .Name y py, .Name z pz] kt pt] (.Tuple [a, b, c] k2 pt2) pos.line X.env = pure false := by rfl) (h1 : unpin L i = true := by rfl) (h2 : unpin L j = true := by rfl) (h3 : unpin L l = true := by rfl) :
    DS X L (.Assign [.Tuple [.Name x px, .Name y py, .Name z pz] kt pt] (.Tuple [a, b, c] k2 pt2) pos) (mPar3 i j l ms) := ⟨ps_to (ps_par3 hc hN hi hj hl hij hil hjl hx hy hz ha.pa hw hs) fun Dn σ H h => by
  refine lftS_bind h fun vs H1 F1 A1 B1 ds ρ1 st dj en q po => ?_
  split at po
  · obtain ⟨v, _, B2, B3, rfl, s, r, w, _, B4, B5, rfl, s2, r2, u, _, B6, B7, rfl, s3, r3, rfl⟩ := q
    refine ⟨v, w, u, rfl, ?_⟩
    have e1 := en.put (i := i) h1 r fun b y z => dj b y (s.l b z)
    have e2 := e1.put (i := j) h2 r2 fun b y z => y.elim (fun y => dj b y (s.r b (s2.l b z))) fun y => s.d b y (s2.l b z)
    have e3 := e2.put (i := l) h3 r3 fun b y z => y.elim (fun y => y.elim (fun y => dj b y (s.r b (s2.r b (s3.l b z)))) fun y => s.d b y (s2.r b (s3.l b z))) fun y => s2.d b y (s3.l b z)
    exact nxP.here po st (fun b y => y.elim (fun y => y.elim (fun y => y.imp id (s.l b)) fun y => .inr (s.r b (s2.l b y))) fun y => .inr (s.r b (s2.r b (s3.l b y)))) e3
  · exact po.elim⟩
def oMin2 : List D → Ro → R D
  | [.int i, .int j], ρ => .ok (.int (if j < i then j else i)) ρ
  | _, _ => .bad
theorem on_min2 {K : Frag} : OpN K L (fun xs H Q => ∃ i j, xs = [V.int i, V.int j] ∧ Q (V.int (if j < i then j else i)) H) oMin2 := by
  intro F A B H σ Q ds vs ρ st dj en q p
  unfold oMin2 at p
  split at p
  · rename_i i j
    obtain ⟨v1, _, _, _, rfl, _, r1, r2⟩ := q
    obtain ⟨v2, _, _, _, rfl, _, r3, r4⟩ := r2
    cases r4
    cases (show v1 = V.int i from r1)
    cases (show v2 = V.int j from r3)
    exact ⟨i, j, rfl, p.leaf rfl st (fun b y => .inl y) en⟩
  · exact p.elim
theorem de_min2 (hc : X.calm = true) (hm : X.mg "min" = none) (ha : DA X L (e :: es) ms) (hg : Gl X "min" := by rfl) (he : starEach (e :: es) X.env = (false, eval e X.env) :: starEach es X.env := by rfl) (hpl : (backTo pos (starEach es X.env)).any (·.1) = false := by rfl) :
    DE X L (.Call (.Name "min" p) (e :: es) [] pos) (mN oMin2 ms) := de_callB (call_min2 hc) on_min2 hm PyProof.Rows.Boot.min ha hg (by decide) (by decide) he hpl
end
end T
end

section
set_option Elab.async false
set_option linter.all false
namespace T
open PySem PySem.Spec PyProof.Rows L2
/-! ### the functions, applied: for simp -/
section
variable {α β : Type} {a b : α} {ρ : Ro} {f : α → Ro → R β} {g : α → Ro → RS} {x : Exn} {d : D} {i : Nat}
@[simp] theorem bind_ok : (R.ok a ρ).bind f = f a ρ := rfl
@[simp] theorem bind_bad : (R.bad : R α).bind f = .bad := rfl
@[simp] theorem bind_exc : (R.exc x ρ : R α).bind f = .exc x ρ := rfl
@[simp] theorem bS_ok : bS (R.ok a ρ) g = g a ρ := rfl
@[simp] theorem bS_bad : bS (R.bad : R α) g = .bad := rfl
@[simp] theorem bS_exc : bS (R.exc x ρ : R α) g = .exc x ρ := rfl
@[simp] theorem mC_app : mC d ρ = .ok d ρ := rfl
theorem mV_app (h : ρ[i]? = some (some d)) : mV i ρ = .ok (fz d) (ρ.set i (some (fz d))) := by unfold mV; rw [h]
theorem mMv_app (h : ρ[i]? = some (some d)) : mMv i ρ = .ok d (ρ.set i none) := by unfold mMv; rw [h]
@[simp] theorem mV0 {ρ : Ro} : mV 0 (some d :: ρ) = .ok (fz d) (some (fz d) :: ρ) := rfl
@[simp] theorem mV1 {o} {ρ : Ro} : mV 1 (o :: some d :: ρ) = .ok (fz d) (o :: some (fz d) :: ρ) := rfl
@[simp] theorem mV2 {o p} {ρ : Ro} : mV 2 (o :: p :: some d :: ρ) = .ok (fz d) (o :: p :: some (fz d) :: ρ) := rfl
@[simp] theorem mV3 {o p q} {ρ : Ro} : mV 3 (o :: p :: q :: some d :: ρ) = .ok (fz d) (o :: p :: q :: some (fz d) :: ρ) := rfl
@[simp] theorem mV4 {o p q r} {ρ : Ro} : mV 4 (o :: p :: q :: r :: some d :: ρ) = .ok (fz d) (o :: p :: q :: r :: some (fz d) :: ρ) := rfl
@[simp] theorem mMv0 {ρ : Ro} : mMv 0 (some d :: ρ) = .ok d (none :: ρ) := rfl
@[simp] theorem mMv1 {o} {ρ : Ro} : mMv 1 (o :: some d :: ρ) = .ok d (o :: none :: ρ) := rfl
@[simp] theorem mMv2 {o p} {ρ : Ro} : mMv 2 (o :: p :: some d :: ρ) = .ok d (o :: p :: none :: ρ) := rfl
@[simp] theorem mMv3 {o p q} {ρ : Ro} : mMv 3 (o :: p :: q :: some d :: ρ) = .ok d (o :: p :: q :: none :: ρ) := rfl
@[simp] theorem mV5 {o0 o1 o2 o3 o4} {ρ : Ro} : mV 5 (o0 :: o1 :: o2 :: o3 :: o4 :: some d :: ρ) = .ok (fz d) (o0 :: o1 :: o2 :: o3 :: o4 :: some (fz d) :: ρ) := rfl
@[simp] theorem mV6 {o0 o1 o2 o3 o4 o5} {ρ : Ro} : mV 6 (o0 :: o1 :: o2 :: o3 :: o4 :: o5 :: some d :: ρ) = .ok (fz d) (o0 :: o1 :: o2 :: o3 :: o4 :: o5 :: some (fz d) :: ρ) := rfl
@[simp] theorem mV7 {o0 o1 o2 o3 o4 o5 o6} {ρ : Ro} : mV 7 (o0 :: o1 :: o2 :: o3 :: o4 :: o5 :: o6 :: some d :: ρ) = .ok (fz d) (o0 :: o1 :: o2 :: o3 :: o4 :: o5 :: o6 :: some (fz d) :: ρ) := rfl
@[simp] theorem mV8 {o0 o1 o2 o3 o4 o5 o6 o7} {ρ : Ro} : mV 8 (o0 :: o1 :: o2 :: o3 :: o4 :: o5 :: o6 :: o7 :: some d :: ρ) = .ok (fz d) (o0 :: o1 :: o2 :: o3 :: o4 :: o5 :: o6 :: o7 :: some (fz d) :: ρ) := rfl
@[simp] theorem mV9 {o0 o1 o2 o3 o4 o5 o6 o7 o8} {ρ : Ro} : mV 9 (o0 :: o1 :: o2 :: o3 :: o4 :: o5 :: o6 :: o7 :: o8 :: some d :: ρ) = .ok (fz d) (o0 :: o1 :: o2 :: o3 :: o4 :: o5 :: o6 :: o7 :: o8 :: some (fz d) :: ρ) := rfl
@[simp] theorem mV10 {o0 o1 o2 o3 o4 o5 o6 o7 o8 o9} {ρ : Ro} : mV 10 (o0 :: o1 :: o2 :: o3 :: o4 :: o5 :: o6 :: o7 :: o8 :: o9 :: some d :: ρ) = .ok (fz d) (o0 :: o1 :: o2 :: o3 :: o4 :: o5 :: o6 :: o7 :: o8 :: o9 :: some (fz d) :: ρ) := rfl
@[simp] theorem mV11 {o0 o1 o2 o3 o4 o5 o6 o7 o8 o9 o10} {ρ : Ro} : mV 11 (o0 :: o1 :: o2 :: o3 :: o4 :: o5 :: o6 :: o7 :: o8 :: o9 :: o10 :: some d :: ρ) = .ok (fz d) (o0 :: o1 :: o2 :: o3 :: o4 :: o5 :: o6 :: o7 :: o8 :: o9 :: o10 :: some (fz d) :: ρ) := rfl
@[simp] theorem mV12 {o0 o1 o2 o3 o4 o5 o6 o7 o8 o9 o10 o11} {ρ : Ro} : mV 12 (o0 :: o1 :: o2 :: o3 :: o4 :: o5 :: o6 :: o7 :: o8 :: o9 :: o10 :: o11 :: some d :: ρ) = .ok (fz d) (o0 :: o1 :: o2 :: o3 :: o4 :: o5 :: o6 :: o7 :: o8 :: o9 :: o10 :: o11 :: some (fz d) :: ρ) := rfl
@[simp] theorem mV13 {o0 o1 o2 o3 o4 o5 o6 o7 o8 o9 o10 o11 o12} {ρ : Ro} : mV 13 (o0 :: o1 :: o2 :: o3 :: o4 :: o5 :: o6 :: o7 :: o8 :: o9 :: o10 :: o11 :: o12 :: some d :: ρ) = .ok (fz d) (o0 :: o1 :: o2 :: o3 :: o4 :: o5 :: o6 :: o7 :: o8 :: o9 :: o10 :: o11 :: o12 :: some (fz d) :: ρ) := rfl
@[simp] theorem mV14 {o0 o1 o2 o3 o4 o5 o6 o7 o8 o9 o10 o11 o12 o13} {ρ : Ro} : mV 14 (o0 :: o1 :: o2 :: o3 :: o4 :: o5 :: o6 :: o7 :: o8 :: o9 :: o10 :: o11 :: o12 :: o13 :: some d :: ρ) = .ok (fz d) (o0 :: o1 :: o2 :: o3 :: o4 :: o5 :: o6 :: o7 :: o8 :: o9 :: o10 :: o11 :: o12 :: o13 :: some (fz d) :: ρ) := rfl
@[simp] theorem mV15 {o0 o1 o2 o3 o4 o5 o6 o7 o8 o9 o10 o11 o12 o13 o14} {ρ : Ro} : mV 15 (o0 :: o1 :: o2 :: o3 :: o4 :: o5 :: o6 :: o7 :: o8 :: o9 :: o10 :: o11 :: o12 :: o13 :: o14 :: some d :: ρ) = .ok (fz d) (o0 :: o1 :: o2 :: o3 :: o4 :: o5 :: o6 :: o7 :: o8 :: o9 :: o10 :: o11 :: o12 :: o13 :: o14 :: some (fz d) :: ρ) := rfl
@[simp] theorem mV16 {o0 o1 o2 o3 o4 o5 o6 o7 o8 o9 o10 o11 o12 o13 o14 o15} {ρ : Ro} : mV 16 (o0 :: o1 :: o2 :: o3 :: o4 :: o5 :: o6 :: o7 :: o8 :: o9 :: o10 :: o11 :: o12 :: o13 :: o14 :: o15 :: some d :: ρ) = .ok (fz d) (o0 :: o1 :: o2 :: o3 :: o4 :: o5 :: o6 :: o7 :: o8 :: o9 :: o10 :: o11 :: o12 :: o13 :: o14 :: o15 :: some (fz d) :: ρ) := rfl
@[simp] theorem mV17 {o0 o1 o2 o3 o4 o5 o6 o7 o8 o9 o10 o11 o12 o13 o14 o15 o16} {ρ : Ro} : mV 17 (o0 :: o1 :: o2 :: o3 :: o4 :: o5 :: o6 :: o7 :: o8 :: o9 :: o10 :: o11 :: o12 :: o13 :: o14 :: o15 :: o16 :: some d :: ρ) = .ok (fz d) (o0 :: o1 :: o2 :: o3 :: o4 :: o5 :: o6 :: o7 :: o8 :: o9 :: o10 :: o11 :: o12 :: o13 :: o14 :: o15 :: o16 :: some (fz d) :: ρ) := rfl
@[simp] theorem mV18 {o0 o1 o2 o3 o4 o5 o6 o7 o8 o9 o10 o11 o12 o13 o14 o15 o16 o17} {ρ : Ro} : mV 18 (o0 :: o1 :: o2 :: o3 :: o4 :: o5 :: o6 :: o7 :: o8 :: o9 :: o10 :: o11 :: o12 :: o13 :: o14 :: o15 :: o16 :: o17 :: some d :: ρ) = .ok (fz d) (o0 :: o1 :: o2 :: o3 :: o4 :: o5 :: o6 :: o7 :: o8 :: o9 :: o10 :: o11 :: o12 :: o13 :: o14 :: o15 :: o16 :: o17 :: some (fz d) :: ρ) := rfl
@[simp] theorem mV19 {o0 o1 o2 o3 o4 o5 o6 o7 o8 o9 o10 o11 o12 o13 o14 o15 o16 o17 o18} {ρ : Ro} : mV 19 (o0 :: o1 :: o2 :: o3 :: o4 :: o5 :: o6 :: o7 :: o8 :: o9 :: o10 :: o11 :: o12 :: o13 :: o14 :: o15 :: o16 :: o17 :: o18 :: some d :: ρ) = .ok (fz d) (o0 :: o1 :: o2 :: o3 :: o4 :: o5 :: o6 :: o7 :: o8 :: o9 :: o10 :: o11 :: o12 :: o13 :: o14 :: o15 :: o16 :: o17 :: o18 :: some (fz d) :: ρ) := rfl
@[simp] theorem mV20 {o0 o1 o2 o3 o4 o5 o6 o7 o8 o9 o10 o11 o12 o13 o14 o15 o16 o17 o18 o19} {ρ : Ro} : mV 20 (o0 :: o1 :: o2 :: o3 :: o4 :: o5 :: o6 :: o7 :: o8 :: o9 :: o10 :: o11 :: o12 :: o13 :: o14 :: o15 :: o16 :: o17 :: o18 :: o19 :: some d :: ρ) = .ok (fz d) (o0 :: o1 :: o2 :: o3 :: o4 :: o5 :: o6 :: o7 :: o8 :: o9 :: o10 :: o11 :: o12 :: o13 :: o14 :: o15 :: o16 :: o17 :: o18 :: o19 :: some (fz d) :: ρ) := rfl
@[simp] theorem mMv4 {o0 o1 o2 o3} {ρ : Ro} : mMv 4 (o0 :: o1 :: o2 :: o3 :: some d :: ρ) = .ok d (o0 :: o1 :: o2 :: o3 :: none :: ρ) := rfl
@[simp] theorem mMv5 {o0 o1 o2 o3 o4} {ρ : Ro} : mMv 5 (o0 :: o1 :: o2 :: o3 :: o4 :: some d :: ρ) = .ok d (o0 :: o1 :: o2 :: o3 :: o4 :: none :: ρ) := rfl
@[simp] theorem mMv6 {o0 o1 o2 o3 o4 o5} {ρ : Ro} : mMv 6 (o0 :: o1 :: o2 :: o3 :: o4 :: o5 :: some d :: ρ) = .ok d (o0 :: o1 :: o2 :: o3 :: o4 :: o5 :: none :: ρ) := rfl
@[simp] theorem mMv7 {o0 o1 o2 o3 o4 o5 o6} {ρ : Ro} : mMv 7 (o0 :: o1 :: o2 :: o3 :: o4 :: o5 :: o6 :: some d :: ρ) = .ok d (o0 :: o1 :: o2 :: o3 :: o4 :: o5 :: o6 :: none :: ρ) := rfl
@[simp] theorem mMv8 {o0 o1 o2 o3 o4 o5 o6 o7} {ρ : Ro} : mMv 8 (o0 :: o1 :: o2 :: o3 :: o4 :: o5 :: o6 :: o7 :: some d :: ρ) = .ok d (o0 :: o1 :: o2 :: o3 :: o4 :: o5 :: o6 :: o7 :: none :: ρ) := rfl
@[simp] theorem mMv9 {o0 o1 o2 o3 o4 o5 o6 o7 o8} {ρ : Ro} : mMv 9 (o0 :: o1 :: o2 :: o3 :: o4 :: o5 :: o6 :: o7 :: o8 :: some d :: ρ) = .ok d (o0 :: o1 :: o2 :: o3 :: o4 :: o5 :: o6 :: o7 :: o8 :: none :: ρ) := rfl
@[simp] theorem mMv10 {o0 o1 o2 o3 o4 o5 o6 o7 o8 o9} {ρ : Ro} : mMv 10 (o0 :: o1 :: o2 :: o3 :: o4 :: o5 :: o6 :: o7 :: o8 :: o9 :: some d :: ρ) = .ok d (o0 :: o1 :: o2 :: o3 :: o4 :: o5 :: o6 :: o7 :: o8 :: o9 :: none :: ρ) := rfl
@[simp] theorem mMv11 {o0 o1 o2 o3 o4 o5 o6 o7 o8 o9 o10} {ρ : Ro} : mMv 11 (o0 :: o1 :: o2 :: o3 :: o4 :: o5 :: o6 :: o7 :: o8 :: o9 :: o10 :: some d :: ρ) = .ok d (o0 :: o1 :: o2 :: o3 :: o4 :: o5 :: o6 :: o7 :: o8 :: o9 :: o10 :: none :: ρ) := rfl
@[simp] theorem mMv12 {o0 o1 o2 o3 o4 o5 o6 o7 o8 o9 o10 o11} {ρ : Ro} : mMv 12 (o0 :: o1 :: o2 :: o3 :: o4 :: o5 :: o6 :: o7 :: o8 :: o9 :: o10 :: o11 :: some d :: ρ) = .ok d (o0 :: o1 :: o2 :: o3 :: o4 :: o5 :: o6 :: o7 :: o8 :: o9 :: o10 :: o11 :: none :: ρ) := rfl
@[simp] theorem mMv13 {o0 o1 o2 o3 o4 o5 o6 o7 o8 o9 o10 o11 o12} {ρ : Ro} : mMv 13 (o0 :: o1 :: o2 :: o3 :: o4 :: o5 :: o6 :: o7 :: o8 :: o9 :: o10 :: o11 :: o12 :: some d :: ρ) = .ok d (o0 :: o1 :: o2 :: o3 :: o4 :: o5 :: o6 :: o7 :: o8 :: o9 :: o10 :: o11 :: o12 :: none :: ρ) := rfl
@[simp] theorem mMv14 {o0 o1 o2 o3 o4 o5 o6 o7 o8 o9 o10 o11 o12 o13} {ρ : Ro} : mMv 14 (o0 :: o1 :: o2 :: o3 :: o4 :: o5 :: o6 :: o7 :: o8 :: o9 :: o10 :: o11 :: o12 :: o13 :: some d :: ρ) = .ok d (o0 :: o1 :: o2 :: o3 :: o4 :: o5 :: o6 :: o7 :: o8 :: o9 :: o10 :: o11 :: o12 :: o13 :: none :: ρ) := rfl
@[simp] theorem mMv15 {o0 o1 o2 o3 o4 o5 o6 o7 o8 o9 o10 o11 o12 o13 o14} {ρ : Ro} : mMv 15 (o0 :: o1 :: o2 :: o3 :: o4 :: o5 :: o6 :: o7 :: o8 :: o9 :: o10 :: o11 :: o12 :: o13 :: o14 :: some d :: ρ) = .ok d (o0 :: o1 :: o2 :: o3 :: o4 :: o5 :: o6 :: o7 :: o8 :: o9 :: o10 :: o11 :: o12 :: o13 :: o14 :: none :: ρ) := rfl
@[simp] theorem mMv16 {o0 o1 o2 o3 o4 o5 o6 o7 o8 o9 o10 o11 o12 o13 o14 o15} {ρ : Ro} : mMv 16 (o0 :: o1 :: o2 :: o3 :: o4 :: o5 :: o6 :: o7 :: o8 :: o9 :: o10 :: o11 :: o12 :: o13 :: o14 :: o15 :: some d :: ρ) = .ok d (o0 :: o1 :: o2 :: o3 :: o4 :: o5 :: o6 :: o7 :: o8 :: o9 :: o10 :: o11 :: o12 :: o13 :: o14 :: o15 :: none :: ρ) := rfl
@[simp] theorem mMv17 {o0 o1 o2 o3 o4 o5 o6 o7 o8 o9 o10 o11 o12 o13 o14 o15 o16} {ρ : Ro} : mMv 17 (o0 :: o1 :: o2 :: o3 :: o4 :: o5 :: o6 :: o7 :: o8 :: o9 :: o10 :: o11 :: o12 :: o13 :: o14 :: o15 :: o16 :: some d :: ρ) = .ok d (o0 :: o1 :: o2 :: o3 :: o4 :: o5 :: o6 :: o7 :: o8 :: o9 :: o10 :: o11 :: o12 :: o13 :: o14 :: o15 :: o16 :: none :: ρ) := rfl
@[simp] theorem mMv18 {o0 o1 o2 o3 o4 o5 o6 o7 o8 o9 o10 o11 o12 o13 o14 o15 o16 o17} {ρ : Ro} : mMv 18 (o0 :: o1 :: o2 :: o3 :: o4 :: o5 :: o6 :: o7 :: o8 :: o9 :: o10 :: o11 :: o12 :: o13 :: o14 :: o15 :: o16 :: o17 :: some d :: ρ) = .ok d (o0 :: o1 :: o2 :: o3 :: o4 :: o5 :: o6 :: o7 :: o8 :: o9 :: o10 :: o11 :: o12 :: o13 :: o14 :: o15 :: o16 :: o17 :: none :: ρ) := rfl
@[simp] theorem mMv19 {o0 o1 o2 o3 o4 o5 o6 o7 o8 o9 o10 o11 o12 o13 o14 o15 o16 o17 o18} {ρ : Ro} : mMv 19 (o0 :: o1 :: o2 :: o3 :: o4 :: o5 :: o6 :: o7 :: o8 :: o9 :: o10 :: o11 :: o12 :: o13 :: o14 :: o15 :: o16 :: o17 :: o18 :: some d :: ρ) = .ok d (o0 :: o1 :: o2 :: o3 :: o4 :: o5 :: o6 :: o7 :: o8 :: o9 :: o10 :: o11 :: o12 :: o13 :: o14 :: o15 :: o16 :: o17 :: o18 :: none :: ρ) := rfl
@[simp] theorem mMv20 {o0 o1 o2 o3 o4 o5 o6 o7 o8 o9 o10 o11 o12 o13 o14 o15 o16 o17 o18 o19} {ρ : Ro} : mMv 20 (o0 :: o1 :: o2 :: o3 :: o4 :: o5 :: o6 :: o7 :: o8 :: o9 :: o10 :: o11 :: o12 :: o13 :: o14 :: o15 :: o16 :: o17 :: o18 :: o19 :: some d :: ρ) = .ok d (o0 :: o1 :: o2 :: o3 :: o4 :: o5 :: o6 :: o7 :: o8 :: o9 :: o10 :: o11 :: o12 :: o13 :: o14 :: o15 :: o16 :: o17 :: o18 :: o19 :: none :: ρ) := rfl
@[simp] theorem m2_app {op : D → D → Ro → R D} {ma mb : Ro → R D} : m2 op ma mb ρ = (ma ρ).bind fun a ρ1 => (mb ρ1).bind fun b ρ2 => op a b ρ2 := rfl
@[simp] theorem m1_app {op : D → Ro → R D} {ma : Ro → R D} : m1 op ma ρ = (ma ρ).bind op := rfl
@[simp] theorem mN_app {op : List D → Ro → R D} {ms : Ro → R (List D)} : mN op ms ρ = (ms ρ).bind op := rfl
@[simp] theorem mNil_app : mNil ρ = .ok [] ρ := rfl
@[simp] theorem mCons_app {m : Ro → R D} {ms : Ro → R (List D)} : mCons m ms ρ = (m ρ).bind fun d ρ1 => (ms ρ1).bind fun ds ρ2 => .ok (d :: ds) ρ2 := rfl
@[simp] theorem mT_app {m : Ro → R D} : mT m ρ = (m ρ).bind toT := rfl
@[simp] theorem toT_app {c : Bool} : toT (.bl c) ρ = .ok c ρ := rfl
@[simp] theorem mAnd_app {t u : Ro → R Bool} : mAnd t u ρ = (t ρ).bind fun c ρ1 => if c then u ρ1 else .ok false ρ1 := rfl
@[simp] theorem mOr_app {t u : Ro → R Bool} : mOr t u ρ = (t ρ).bind fun c ρ1 => if c then .ok true ρ1 else u ρ1 := rfl
@[simp] theorem mNot_app {t : Ro → R Bool} : mNot t ρ = (t ρ).bind fun c ρ1 => .ok (!c) ρ1 := rfl
@[simp] theorem mIf_app {t : Ro → R Bool} {m n : Ro → R α} : mIf t m n ρ = (t ρ).bind fun c ρ1 => if c then m ρ1 else n ρ1 := rfl
@[simp] theorem mSeq_app {m n : Ro → RS} : mSeq m n ρ = (match m ρ with | .nx ρ1 => n ρ1 | r => r) := rfl
@[simp] theorem mRet_app {m : Ro → R D} : mRet m ρ = bS (m ρ) .ret := rfl
@[simp] theorem mDrop_app {m : Ro → R D} : mDrop m ρ = bS (m ρ) fun _ ρ1 => .nx ρ1 := rfl
@[simp] theorem mNx_app : mNx ρ = .nx ρ := rfl
@[simp] theorem mIfS_app {t : Ro → R Bool} {m n : Ro → RS} : mIfS t m n ρ = bS (t ρ) fun c ρ1 => if c then m ρ1 else n ρ1 := rfl
@[simp] theorem mAndV_app {ma mb : Ro → R D} : mAndV ma mb ρ = (ma ρ).bind fun d ρ1 => match d with | .bl true => mb ρ1 | .bl false => .ok (.bl false) ρ1 | _ => .bad := rfl
@[simp] theorem mOrV_app {ma mb : Ro → R D} : mOrV ma mb ρ = (ma ρ).bind fun d ρ1 => match d with | .bl true => .ok (.bl true) ρ1 | .bl false => mb ρ1 | _ => .bad := rfl
@[simp] theorem mAsg_app {m : Ro → R D} {h : D → Ro → Option Ro} : mAsg m h ρ = bS (m ρ) fun d ρ1 => match h d ρ1 with | some ρ2 => .nx ρ2 | none => .bad := rfl
@[simp] theorem gSet_app : gSet i d ρ = some (ρ.set i (some d)) := rfl
@[simp] theorem gsNil_app : gsNil [] ρ = some ρ := rfl
@[simp] theorem gsCons_app {g : D → Ro → Option Ro} {gs : List D → Ro → Option Ro} {ds : List D} : gsCons g gs (d :: ds) ρ = (g d ρ).bind fun ρ1 => gs ds ρ1 := rfl
@[simp] theorem gTupD_app {gs : List D → Ro → Option Ro} {ds : List D} {n : Nat} : gTupD n gs (.tup ds) ρ = if ds.length = n then gs ds ρ else none := rfl
@[simp] theorem mPar_app {i j : Nat} {ms : Ro → R (List D)} : mPar i j ms ρ = bS (ms ρ) fun ds ρ1 => match ds with | [d1, d2] => .nx ((ρ1.set i (some d1)).set j (some d2)) | _ => .bad := rfl
theorem mB_app {cl : α → Bool} {m : Ro → R α} : mB cl m ρ = (match m (ρ.map fzo) with | .ok d _ => if cl d then .ok d ρ else .bad | .exc x ρ' => .exc x ρ' | .bad => .bad) := rfl
theorem mB_ok {cl : α → Bool} {m : Ro → R α} {ρ' : Ro} (h : m (ρ.map fzo) = .ok a ρ') (hc : cl a = true) : mB cl m ρ = .ok a ρ := by unfold mB; rw [h]; simp [hc]
@[simp] theorem fzo_some : fzo (some d) = some (fz d) := rfl
@[simp] theorem fzo_none : fzo none = none := rfl
@[simp] theorem fz_int {i : Int} : fz (.int i) = .int i := rfl
@[simp] theorem fz_bl {b : Bool} : fz (.bl b) = .bl b := rfl
@[simp] theorem fz_str {b : Str} : fz (.str b) = .str b := rfl
@[simp] theorem fz_non : fz .non = .non := rfl
@[simp] theorem fz_tup {ds : List D} : fz (.tup ds) = .tup (fzs ds) := rfl
@[simp] theorem fz_lst {o : Bool} {ds : List D} : fz (.lst o ds) = .lst false (fzs ds) := rfl
@[simp] theorem fz_ins {o : Bool} {c : Cid} {fs : List Str} {ds : List D} : fz (.ins o c fs ds) = .ins false c fs (fzs ds) := rfl
@[simp] theorem fzs_nil : fzs [] = [] := rfl
@[simp] theorem fzs_cons {ds : List D} : fzs (d :: ds) = fz d :: fzs ds := rfl
mutual
theorem fz_fz : ∀ {d : D}, fz (fz d) = fz d
  | .non => rfl
  | .bl _ => rfl
  | .int _ => rfl
  | .str _ => rfl
  | .ty _ => rfl
  | .cls _ => rfl
  | .tup ds => congrArg D.tup (fzs_fzs (ds := ds))
  | .lst _ ds => congrArg (D.lst false) (fzs_fzs (ds := ds))
  | .dK _ ks ds => congrArg (D.dK false ks) (fzs_fzs (ds := ds))
  | .dT _ ks ds => congrArg (D.dT false ks) (fzs_fzs (ds := ds))
  | .ins _ c fs ds => congrArg (D.ins false c fs) (fzs_fzs (ds := ds))
theorem fzs_fzs : ∀ {ds : List D}, fzs (fzs ds) = fzs ds
  | [] => rfl
  | d :: ds => by
    show fz (fz d) :: fzs (fzs ds) = fz d :: fzs ds
    rw [fz_fz, fzs_fzs]
end
@[simp] theorem clean_int {i : Int} : clean (.int i) = true := rfl
@[simp] theorem clean_bl {i : Bool} : clean (.bl i) = true := rfl
@[simp] theorem clean_str {i : Str} : clean (.str i) = true := rfl
@[simp] theorem clean_non : clean .non = true := rfl
section
variable {i j : Int} {o : Bool} {ds : List D}
@[simp] theorem oAddA_int : oAddA (.int i) (.int j) ρ = .ok (.int (i + j)) ρ := rfl
@[simp] theorem oSub_int : oSub (.int i) (.int j) ρ = .ok (.int (i - j)) ρ := rfl
@[simp] theorem oMulI_int : oMulI (.int i) (.int j) ρ = if mulOk i j then .ok (.int (i * j)) ρ else .bad := rfl
@[simp] theorem oFdiv_int : oFdiv (.int i) (.int j) ρ = if decide (0 < j) && decide (j.natAbs.log2 < 9000) then .ok (.int (i / j)) ρ else .bad := rfl
@[simp] theorem oMod_int : oMod (.int i) (.int j) ρ = if decide (0 < j) then .ok (.int (i % j)) ρ else .bad := rfl
@[simp] theorem oNeg_int : oNeg (.int i) ρ = .ok (.int (-i)) ρ := rfl
@[simp] theorem oLt_int : oLt (.int i) (.int j) ρ = .ok (.bl (decide (i < j))) ρ := rfl
@[simp] theorem oLe_int : oLe (.int i) (.int j) ρ = .ok (.bl (decide (i ≤ j))) ρ := rfl
@[simp] theorem oGt_int : oGt (.int i) (.int j) ρ = .ok (.bl (decide (j < i))) ρ := rfl
@[simp] theorem oGe_int : oGe (.int i) (.int j) ρ = .ok (.bl (decide (j ≤ i))) ρ := rfl
@[simp] theorem oInt_int : oInt [.int i] ρ = .ok (.int i) ρ := rfl
@[simp] theorem oInt_bl {b : Bool} : oInt [.bl b] ρ = .ok (.int (if b then 1 else 0)) ρ := rfl
@[simp] theorem oLenS_lst : oLenS [.lst o ds] ρ = .ok (.int ds.length) ρ := rfl
@[simp] theorem oLenS_tup : oLenS [.tup ds] ρ = .ok (.int ds.length) ρ := rfl
@[simp] theorem oTup_app : oTup ds ρ = if szOk ds.length then .ok (.tup ds) ρ else .bad := rfl
@[simp] theorem oLst_app : oLst ds ρ = if szOk ds.length then .ok (.lst true ds) ρ else .bad := rfl
@[simp] theorem oSeq_lst : oSeq (.lst o ds) ρ = .ok (fzs ds) ρ := rfl
@[simp] theorem oSeq_tup : oSeq (.tup ds) ρ = .ok (fzs ds) ρ := rfl
theorem oIx_lst {x : D} (h : L2.atI ds i = some x) : oIx (.lst o ds) (.int i) ρ = .ok x ρ := by show (match L2.atI ds i with | some d => R.ok d ρ | none => R.bad) = _; rw [h]
@[simp] theorem oIx_lst' : oIx (.lst o ds) (.int i) ρ = (match L2.atI ds i with | some d => R.ok d ρ | none => R.bad) := rfl
@[simp] theorem oIx_tup' : oIx (.tup ds) (.int i) ρ = (match L2.atI ds i with | some d => R.ok d ρ | none => R.bad) := rfl
end
@[simp] theorem outs_nil : outsOf [] ρ = some [] := rfl
@[simp] theorem toRF_nx {io : List Nat} : toRF io (.nx ρ) = (match outsOf io ρ with | some os => .ok .non os | none => .bad) := rfl
@[simp] theorem toRF_ret {io : List Nat} : toRF io (.ret d ρ) = (match outsOf io ρ with | some os => .ok d os | none => .bad) := rfl
@[simp] theorem toRF_exc {io : List Nat} : toRF io (.exc x ρ) = (match outsOf io ρ with | some os => .exc x os | none => .bad) := rfl
theorem mulOk_mod {x y m : Int} (h : 0 < m) (h2 : m ≤ 2 ^ 60) : mulOk (x % m) y = true := by
  have h3 := Int.emod_nonneg x (by omega : m ≠ 0)
  have h4 := Int.emod_lt_of_pos x h
  unfold mulOk
  simp only [Bool.or_eq_true, decide_eq_true_eq]
  left; left
  omega
theorem log2_lit {n : Nat} (h : n < 2 ^ 64) : n.log2 < 9000 := by
  by_cases e : n = 0
  · rw [e]; decide
  · exact Nat.lt_of_lt_of_le ((Nat.log2_lt e).mpr h) (by decide)
theorem mulOk_left {x y : Int} (h : x.natAbs < 2 ^ 60) : mulOk x y = true := by unfold mulOk; simp [h]
theorem mulOk_right {x y : Int} (h : y.natAbs < 2 ^ 60) : mulOk x y = true := by unfold mulOk; simp [h]
end
end T
end

section
set_option Elab.async false
set_option linter.all false
namespace T
open PySem PySem.Spec PyProof.Rows L2
/-! ### isinstance: what is asked of the top -/
section
variable {K : PySem.W.Frag} {C C' : Addr} {n : String}
theorem cls_some {b : Value} {r : Bool} (hm : PySem.W.mroIn K C b = some r) : (PySem.W.clsIn K C).isSome = true := by
  unfold PySem.W.mroIn at hm
  cases e : PySem.W.clsIn K C with
  | none => rw [e] at hm; cases hm
  | some c => rfl
theorem kit_bo (hm : PySem.W.mroIn K C (.type "object") = some true) (ht : PySem.W.typeIn K (.ref C) = some (.type "type")) (h : n = "NoneType" ∨ n = "bool" ∨ n = "int" ∨ n = "str" ∨ n = "tuple" ∨ n = "list" ∨ n = "dict") : PySem.W.kitOne K (.type n) (.ref C) = some false := by
  have hc := cls_some hm
  have key : PySem.W.kitOne K (.type n) (.ref C) = PySem.W.subIn K (.type n) (.ref C) := by
    unfold PySem.W.kitOne PySem.W.kitCls
    rw [if_neg (by simp)]
    simp only
    rw [hc, ht]
    rfl
  rw [key]
  rcases h with h | h | h | h | h | h | h <;> subst h <;> rfl
theorem kit_ob (h : PySem.W.mroIn K C (.type n) = some false) (hn : PySem.W.kitMeta n = true) : PySem.W.kitOne K (.ref C) (.type n) = some false := by
  unfold PySem.W.kitOne PySem.W.kitCls
  rw [if_neg (by simp)]
  simp only
  rw [if_pos hn]
  exact h
theorem kit_self : PySem.W.kitOne K (.ref C) (.ref C) = some true := by
  unfold PySem.W.kitOne
  rw [if_pos (by simp)]
theorem kit_oo (h : PySem.W.mroIn K C (.ref C') = some false) (ne : (C == C') = false) (hm : PySem.W.mroIn K C' (.type "object") = some true) (ht : PySem.W.typeIn K (.ref C') = some (.type "type")) : PySem.W.kitOne K (.ref C) (.ref C') = some false := by
  have hc := cls_some hm
  have ne' : C ≠ C' := by simpa using ne
  unfold PySem.W.kitOne PySem.W.kitCls
  rw [if_neg (by simp [ne'])]
  simp only
  rw [hc, ht]
  exact h
end
end T
end

section
set_option Elab.async false
set_option linter.all false
set_option maxRecDepth 100000
set_option maxHeartbeats 1000000
namespace T
open PySem PySem.Spec PyProof.Rows L2
/-! ### keywords in any order: js: which of those that are left comes next -/
def permI {α : Type} : List Nat → List α → List α
  | [], l => l
  | j :: js, l => match l[j]? with
    | some a => a :: permI js (l.eraseIdx j)
    | none => l
theorem permI_len {α : Type} : ∀ (js : List Nat) (l : List α), (permI js l).length = l.length
  | [], l => rfl
  | j :: js, l => by
    unfold permI
    split
    · rename_i a h
      have hl : j < l.length := by rw [List.getElem?_eq_some_iff] at h; exact h.1
      rw [List.length_cons, permI_len js, List.length_eraseIdx_of_lt hl]
      omega
    · rfl
theorem Vals.out : ∀ {vs : List V} {us : List Value} {j : Nat}, Vals vs us → (∀ v, vs[j]? = some v → ∃ u, us[j]? = some u ∧ Vals (v :: vs.eraseIdx j) (u :: us.eraseIdx j)) ∧ (vs[j]? = none → us[j]? = none)
  | _, _, _, .nil => ⟨fun v h => by simp at h, fun h => by simp⟩
  | _, _, 0, .cons a r => ⟨fun v h => by cases h; exact ⟨_, rfl, .cons a r⟩, fun h => by simp at h⟩
  | _, _, j + 1, .cons a r => ⟨fun v h => by
      obtain ⟨u, h1, h2⟩ := (Vals.out (j := j) r).1 v (by simpa using h)
      cases h2 with
      | cons b r2 => exact ⟨u, by simpa using h1, .cons b (.cons a r2)⟩, fun h => by
      have := (Vals.out (j := j) r).2 (by simpa using h)
      simpa using this⟩
theorem Vals.permI : ∀ {js : List Nat} {vs : List V} {us : List Value}, Vals vs us → Vals (permI js vs) (permI js us)
  | [], _, _, r => r
  | j :: js, vs, us, r => by
    have k := Vals.out (j := j) r
    unfold T.permI
    cases h : vs[j]? with
    | none => rw [k.2 h]; exact r
    | some v =>
      obtain ⟨u, h1, h2⟩ := k.1 v h
      rw [h1]
      cases h2 with
      | cons a r2 => exact .cons a (Vals.permI r2)
section
variable {K : Frag} {cA : Cid → Addr} {F : FP} {H : Hp}
theorem Reps.out : ∀ {ds : List D} {vs : List V} {A : FP} {j : Nat}, Reps K cA F H ds vs A → (∀ d, ds[j]? = some d → ∃ v, vs[j]? = some v ∧ Reps K cA F H (d :: ds.eraseIdx j) (v :: vs.eraseIdx j) A) ∧ (ds[j]? = none → vs[j]? = none)
  | [], _, _, j, r => by cases r; exact ⟨fun d h => by simp at h, fun h => by simp⟩
  | d :: ds, _, A, 0, r => by
    obtain ⟨v, vs', A1, A2, rfl, s, q, rs⟩ := r
    exact ⟨fun e h => by cases h; exact ⟨v, rfl, v, vs', A1, A2, rfl, s, q, rs⟩, fun h => by simp at h⟩
  | d :: ds, _, A, j + 1, r => by
    obtain ⟨v, vs', A1, A2, rfl, s, q, rs⟩ := r
    have ih := Reps.out (j := j) rs
    refine ⟨fun e h => ?_, fun h => ?_⟩
    · obtain ⟨u, h1, w, ws, B1, B2, h2, s2, q2, r2⟩ := ih.1 e (by simpa using h)
      cases h2
      refine ⟨u, by simpa using h1, u, v :: vs'.eraseIdx j, B1, un A1 B2, rfl, ⟨fun b x => s.r b (s2.l b x), fun b x => x.elim (s.l b) fun x => s.r b (s2.r b x), fun b x y => y.elim (fun y => s.d b y (s2.l b x)) (s2.d b x)⟩, q2, ?_⟩
      exact ⟨v, _, A1, B2, rfl, ⟨fun b x => .inl x, fun b x => .inr x, fun b x y => s.d b x (s2.r b y)⟩, q, r2⟩
    · have := ih.2 (by simpa using h)
      simpa using this
theorem Reps.permI : ∀ {js : List Nat} {ds : List D} {vs : List V} {A : FP}, Reps K cA F H ds vs A → Reps K cA F H (permI js ds) (permI js vs) A
  | [], _, _, _, r => r
  | j :: js, ds, vs, A, r => by
    have k := Reps.out (j := j) r
    unfold T.permI
    cases h : ds[j]? with
    | none => rw [k.2 h]; exact r
    | some d =>
      obtain ⟨v, h1, w, ws, A1, A2, h2, s, q, r2⟩ := k.1 d h
      cases h2
      rw [h1]
      exact ⟨v, _, A1, A2, rfl, s, q, Reps.permI r2⟩
end
def KbP (K : PySem.W.Frag) (fd : FuncData) (ps : List Str) (n : Nat) (ks : List Str) (js : List Nat) : Prop := ∀ (s : Shared) (us ws : List Value), K.In s.heap → us.length = n → ws.length = ks.length → BindsTo s fd { pos := us, kw := ks.zip ws } (ps.zip (permI js (us ++ ws)))
section
variable {X : Cx} {CX : CXT} {k n : Nat} {f : Addr} {fd : FuncData} {ps ks : List Str} {js : List Nat} {sp : Sp} {E : L2.St → XK}
theorem run_fnP {pins : List (Addr × Obj)} {σ : L2.St} {H : Hp} {s : Shared} {Q : VK} {us ws : List Value} {vs zs : List V} (F : FnG X.prog X.w X.K X.mg X.base CX k f fd ps sp) (hr : Roo k X.A) (hb : KbP X.K fd ps n ks js) (hx : PassesAt CX X σ (E σ)) (I : L2.Inv X pins σ H s) (r : Vals vs us) (rz : Vals zs ws) (l1 : vs.length = n) (l2 : zs.length = ks.length) (h : sp (permI js (vs ++ zs)) H Q (E σ)) :
    wpAny (model X.prog X.w) X.A (call (.ref f) us (ks.zip ws)) (EP X pins σ Q) X.xe s := by
  refine wpAny_call (codeAny_mono (F.run X.A X.stack s H { pos := us, kw := ks.zip ws } (permI js (us ++ ws)) (permI js (vs ++ zs)) Q (E σ) hr I.env0 (hb s us ws I.kIn (by rw [← r.length]; exact l1) (by rw [← rz.length]; exact l2)) (Vals.permI (r.append rz)) h) fun r s' hq => ?_)
  cases r with
  | error e => exact hx pins H s e s' I hq
  | ok fl =>
    cases fl with
    | ret u => exact I.after hq
    | next => exact False.elim hq
    | brk => exact False.elim hq
    | cont => exact False.elim hq
def tCallP (n m : Nat) (js : List Nat) (sp : Sp) (E : L2.St → XK) (t tk : TA) : TE := fun σ H Q => t σ H fun vs H1 => tk σ H1 fun zs H2 => vs.length = n ∧ zs.length = m ∧ sp (permI js (vs ++ zs)) H2 Q (E σ)
theorem pe_callP0 {x : Str} {p pos : Pos} {kws : List Keyword} {tk : TA} (F : FnG X.prog X.w X.K X.mg X.base CX k f fd ps sp) (hr : Roo k X.A) (hg : Gl X x) (hm : X.mg x = some (.ref f)) (hk : PySem.W.keepIn X.K (.ref f) = true) (hb : KbP X.K fd ps 0 ks js) (hx : ∀ σ, PassesAt CX X σ (E σ)) (hkw : PK X kws tk)
    (hall : ((backToKw pos (keywordEach kws X.env)).all fun x => x.1.isSome) = true) (hks : (backToKw pos (keywordEach kws X.env)).filterMap (fun x => x.1) = ks) (hdb : (x == ("__debug__" : Str)) = false) (hpl : (((backTo pos (starEach [] X.env)).any fun x => x.1) || (backToKw pos (keywordEach kws X.env)).any fun x => x.1.isNone) = false) :
    PE X (.Call (.Name x p) [] kws pos) (tCallP 0 ks.length js sp E tNil tk) := ⟨fun pins s σ H Q I h => by
  refine wpAny_Call_Name_kw (ld_glob I hg hm ?_ hdb)
  refine PySem.W.callWith_KW0 (first := []) I.ok.mod.kin hk hall (thn (hkw.run pos pins s σ H _ I h) fun ws s2 ⟨zs, H2, I2, rz, l1, l2, q⟩ => ⟨I2.kIn, ?_⟩) hpl
  rw [hks]
  exact run_fnP (us := []) (vs := []) F hr hb (hx σ) I2 .nil rz l1 l2 q⟩
theorem pe_callP {x : Str} {p pos : Pos} {e : Expr} {es : List Expr} {kws : List Keyword} {t tk : TA} (F : FnG X.prog X.w X.K X.mg X.base CX k f fd ps sp) (hr : Roo k X.A) (hg : Gl X x) (hm : X.mg x = some (.ref f)) (hk : PySem.W.keepIn X.K (.ref f) = true) (hb : KbP X.K fd ps n ks js) (hx : ∀ σ, PassesAt CX X σ (E σ)) (ha : PA X (e :: es) t) (hkw : PK X kws tk)
    (hall : ((backToKw pos (keywordEach kws X.env)).all fun x => x.1.isSome) = true) (hks : (backToKw pos (keywordEach kws X.env)).filterMap (fun x => x.1) = ks) (hdb : (x == ("__debug__" : Str)) = false) (he : starEach (e :: es) X.env = (false, eval e X.env) :: starEach es X.env) (hpl : (((backTo pos (starEach (e :: es) X.env)).any fun x => x.1) || (backToKw pos (keywordEach kws X.env)).any fun x => x.1.isNone) = false) :
    PE X (.Call (.Name x p) (e :: es) kws pos) (tCallP n ks.length js sp E t tk) := ⟨fun pins s σ H Q I h => by
  refine wpAny_Call_Name_kw (ld_glob I hg hm ?_ hdb)
  refine PySem.W.callWith_KW (first := []) I.ok.mod.kin hk hall (thn (ha.run pos pins s σ H _ I h) fun us s1 ⟨vs, H1, I1, r, q⟩ => thn (hkw.run pos pins s1 σ H1 _ I1 q) fun ws s2 ⟨zs, H2, I2, rz, l1, l2, q⟩ => ⟨I2.kIn, ?_⟩) hpl he
  rw [hks]
  exact run_fnP F hr hb (hx σ) I2 r rz l1 l2 q⟩
end
section
variable {X : Cx} {L : Lc} {pos p kpos : Pos} {x : Str} {e : Expr} {es : List Expr} {kws : List Keyword} {nm : Option Str} {m : Ro → R D} {ms mk : Ro → R (List D)} {k n : Nat} {f : Addr} {fd : FuncData} {ps ks : List Str} {js : List Nat} {g : List D → RF}
def mCallP (n m : Nat) (js : List Nat) (g : List D → RF) (ms mk : Ro → R (List D)) : Ro → R D := fun ρ => (ms ρ).bind fun ds ρ1 => (mk ρ1).bind fun zs ρ2 => if ds.length = n ∧ zs.length = m then afterC [] ρ2 (g (permI js (ds ++ zs))) else .bad
theorem lft_callP {K : Frag} {N m : Nat} (hn : n + m = N) : ∀ σ H Q, lft K L rE (mCallP n m js g ms mk) σ H Q → tCallP n m js (spT K L.cA N [] g) (fun σ => WE L.W σ) (lft K L rA ms) (lft K L rA mk) σ H Q := by
  intro σ H Q h
  refine lft_bind h fun vs H1 F1 A1 B1 ds ρ1 st dj en q p => ?_
  refine lft_rest st dj en p fun zs H2 F2 A2 B2 es ρ2 st2 dj2 dj2' en2 q2 fr kb p2 => ?_
  split at p2
  · rename_i hl
    obtain ⟨h1, h2⟩ := hl
    refine ⟨by rw [← q.len]; exact h1, by rw [← q2.len]; exact h2, ?_⟩
    have st3 : Sta F2 (un A2 (un B1 B2)) H2 := st2.sub fun b y => y.elim (fun y => .inl (.inl y)) fun y => y.elim .inr fun y => .inl (.inr y)
    have r := Reps.permI (js := js) ((q.move fr kb fun _ y => y).append q2 fun b y z => dj2' b (.inr z) y)
    refine spT_of (ls := []) st3 (fun b y z => z.elim (dj2' b (.inl y)) (dj2 b y)) en2 r (fun i j v e => by simp at e) ?_ rfl (Post.step ((Step.refl st2).sub fun b y => y.elim (fun y => .inl (.inl y)) fun y => y.elim .inr fun y => .inl (.inr y)) p2)
    rw [permI_len, List.length_append, ← q.len, ← q2.len, h1, h2, hn]
  · exact p2.elim
/-- f(a, .., x=b, ..), the keywords in any order -/
theorem de_callP (F : FnT X.prog X.w X.K X.mg X.base L.cA k f fd ps [] g) (hr : Roo k X.A) (tk : Takes X L.W) (hm : X.mg x = some (.ref f)) (hk : PySem.W.keepIn X.K (.ref f) = true) (hb : KbP X.K fd ps n ks js) (ha : DA X L (e :: es) ms) (hkw : DK X L kws mk) (hn : n + ks.length = ps.length := by rfl) (hg : Gl X x := by rfl) (hdb : (x == ("__debug__" : Str)) = false := by decide)
    (hall : ((backToKw pos (keywordEach kws X.env)).all fun x => x.1.isSome) = true := by rfl) (hks : (backToKw pos (keywordEach kws X.env)).filterMap (fun x => x.1) = ks := by rfl) (he : starEach (e :: es) X.env = (false, eval e X.env) :: starEach es X.env := by rfl) (hpl : (((backTo pos (starEach (e :: es) X.env)).any fun x => x.1) || (backToKw pos (keywordEach kws X.env)).any fun x => x.1.isNone) = false := by rfl) :
    DE X L (.Call (.Name x p) (e :: es) kws pos) (mCallP n ks.length js g ms mk) := ⟨pe_to (pe_callP (E := fun σ => WE L.W σ) F hr hg hm hk hb (fun σ => passAt tk σ) ha.pa hkw.pk hall hks hdb he hpl) (lft_callP hn)⟩
theorem de_callP0 (F : FnT X.prog X.w X.K X.mg X.base L.cA k f fd ps [] g) (hr : Roo k X.A) (tk : Takes X L.W) (hm : X.mg x = some (.ref f)) (hk : PySem.W.keepIn X.K (.ref f) = true) (hb : KbP X.K fd ps 0 ks js) (hkw : DK X L kws mk) (hn : 0 + ks.length = ps.length := by rfl) (hg : Gl X x := by rfl) (hdb : (x == ("__debug__" : Str)) = false := by decide)
    (hall : ((backToKw pos (keywordEach kws X.env)).all fun x => x.1.isSome) = true := by rfl) (hks : (backToKw pos (keywordEach kws X.env)).filterMap (fun x => x.1) = ks := by rfl) (hpl : (((backTo pos (starEach [] X.env)).any fun x => x.1) || (backToKw pos (keywordEach kws X.env)).any fun x => x.1.isNone) = false := by rfl) :
    DE X L (.Call (.Name x p) [] kws pos) (mCallP 0 ks.length js g mNil mk) := ⟨pe_to (pe_callP0 (E := fun σ => WE L.W σ) F hr hg hm hk hb (fun σ => passAt tk σ) hkw.pk hall hks hdb hpl) fun σ H Q h => by
  obtain ⟨ρ, F0, A, st, en, po⟩ := lft_callP hn σ H Q h
  exact po.val (A1 := A) st (fun _ y => y) en rfl⟩
end
end T
end

section
set_option Elab.async false
set_option linter.all false
set_option maxRecDepth 100000
set_option maxHeartbeats 1000000
namespace T
open PySem PySem.Spec PyProof.Rows L2
/-! ### sorted -/
def pyD (d : D) : PyData := (toPy d).getD .none
def leD (a b : D) : Bool := PySem.W.dataLe false pyD a b
def sortD (ds : List D) : List D := ds.mergeSort leD
def alikes (xs : List PyData) : Bool := xs.all fun a => xs.all fun b => PySem.W.alike a b
def tupK : PyData → Bool
  | .tuple (_ :: _) => true
  | _ => false
def othK : PyData → Bool
  | .none => false
  | .tuple _ => false
  | _ => true
def sortb (xs : List PyData) : Bool := xs.all tupK || xs.all othK
theorem alikes_ok {xs : List PyData} (h : alikes xs = true) : PySem.W.AllAlike xs := by
  unfold alikes at h
  intro d hd e he
  exact List.all_eq_true.mp (List.all_eq_true.mp h d hd) e he
theorem sortb_ok {xs : List PyData} (h : sortb xs = true) : PySem.W.Sortable xs := by
  unfold sortb at h
  rw [Bool.or_eq_true] at h
  rcases h with h | h
  · refine .inl fun d hd => ?_
    have := List.all_eq_true.mp h d hd
    match d, this with
    | .tuple (x :: r), _ => exact ⟨x, r, rfl⟩
  · refine .inr fun d hd => ?_
    have := List.all_eq_true.mp h d hd
    cases d <;> first | (cases this; done) | (refine ⟨by simp, by simp⟩)
def rSortedD (K : Frag) : List V → Hp → VK → Prop := fun vs H Q => ∃ (a : Addr) (ps : List (PyData × V)), vs = [V.ref a] ∧ SqL K H a (ps.map (·.2)) ∧ (∀ p ∈ ps, Dp K H p.2 p.1) ∧ PySem.W.AllAlike (ps.map (·.1)) ∧ PySem.W.Sortable (ps.map (·.1)) ∧ ps.length ≤ sizeLine ∧ (∀ p ∈ ps, p.1.depth ≤ 60) ∧
  ∀ l, H l = none → Q (.ref l) (upd H l (.lst ((ps.mergeSort (PySem.W.dataLe false (·.1))).map (·.2))))
theorem each_vals {s : Shared} {X : Cx} {pins : List (Addr × Obj)} {σ : L2.St} {H : Hp} (I : Inv X pins σ H s) : ∀ {ps : List (PyData × V)} {us : List Value}, Vals (ps.map (·.2)) us → (∀ p ∈ ps, Dp X.K H p.2 p.1) →
    PySem.W.EachIs (fun v (p : PyData × V) => RelV p.2 v) us ps ∧ PySem.W.EachIs (fun v (p : PyData × V) => ∃ as, Reads s.heap v p.1 as) us ps
  | [], _, r, _ => by
    cases r
    exact ⟨.nil, .nil⟩
  | p :: ps, _, r, h => by
    cases r with
    | cons a r =>
      obtain ⟨h1, h2⟩ := each_vals I r fun q hq => h q (List.mem_cons_of_mem _ hq)
      exact ⟨.cons a h1, .cons (Dp.reads I p.1 p.2 _ (h p List.mem_cons_self) a) h2⟩
theorem vals_each : ∀ {ps : List (PyData × V)} {us : List Value}, PySem.W.EachIs (fun v (p : PyData × V) => RelV p.2 v) us ps → Vals (ps.map (·.2)) us
  | [], _, .nil => .nil
  | p :: ps, _, .cons a r => .cons a (vals_each r)
theorem cr_sortedD {X : Cx} (hu : X.A.units + 64 < cLine) : CallR X (.builtin "sorted") (rSortedD X.K) := by
  intro pins s σ H vs us Q I r h
  obtain ⟨a, ps, rfl, hs, hd, ha, hk, hz, h60, q⟩ := h
  obtain ⟨its, rv, hl, _⟩ := I.list hs
  rw [Vals.ref1 r]
  obtain ⟨e1, e2⟩ := each_vals I rv hd
  refine PySem.W.sorted_data (enc := fun p : PyData × V => p.1) hl.isList e1 e2 ha hk hz (fun p hp => by have := h60 p hp; omega) fun out h1 h2 => ?_
  obtain ⟨ep, he'⟩ := PyProof.Rows.sortedAll_at s.heap its out.toArray
  have hlen : ((ps.mergeSort (PySem.W.dataLe false (·.1))).map (·.2)).length ≤ sizeLine := by rw [List.length_map, List.length_mergeSort]; exact hz
  exact ⟨.ref _, upd H (s.heap.objs.size + 1) (.lst ((ps.mergeSort (PySem.W.dataLe false (·.1))).map (·.2))), I.laid (t' := s.toks) (fun _ _ => PyProof.Rows.sortedAll_old) (Nat.le_succ _) ⟨hlen, out, ep, vals_each h2, he'⟩, rfl, q _ (I.hok.fresh (Nat.le_succ _))⟩
end T
end

section
set_option Elab.async false
set_option linter.all false
set_option maxRecDepth 100000
set_option maxHeartbeats 1000000
namespace T
open PySem PySem.Spec PyProof.Rows L2
/-! ### dicts with texts or ints for keys -/
def keyD : D → Option Key
  | .str x => some (.inr x)
  | .int i => some (.inl i)
  | _ => none
def prsD : List D → Option (List (Key × D))
  | [] => some []
  | .tup [k, d] :: ds => match keyD k, prsD ds with
    | some k', some r => some ((k', d) :: r)
    | _, _ => none
  | _ => none
def putD (kds : List (Key × D)) (k : Key) (d : D) : List (Key × D) :=
  if (kds.any fun kv => decide (kv.1 = k)) = true then kds.map (fun kv => if kv.1 = k then (kv.1, d) else kv) else kds ++ [(k, d)]
def mergeD (kds more : List (Key × D)) : List (Key × D) := more.foldl (fun acc kv => putD acc kv.1 kv.2) kds
def valD (kds : List (Key × D)) (k : Key) : Option D := (kds.find? fun kv => decide (kv.1 = k)).map (·.2)
section
variable {K : Frag} {cA : Cid → Addr} {F : FP} {H : Hp}
abbrev PK (K : Frag) (cA : Cid → Addr) (F : FP) (H : Hp) : List (Key × D) → List (Key × V) → Prop := Paired fun p q => p.1 = q.1 ∧ Rep K cA F H p.2 q.2 no
theorem keyD_rep {d : D} {k : Key} {v : V} {A : FP} (e : keyD d = some k) (r : Rep K cA F H d v A) : v = kV k := by
  cases d <;> first | cases e | skip
  · exact r
  · exact r
theorem PK.any {kds : List (Key × D)} {kvs : List (Key × V)} (r : PK K cA F H kds kvs) (k : Key) : (kds.any fun kv => decide (kv.1 = k)) = kvs.any fun kv => decide (kv.1 = k) := by
  unfold PK at r
  induction r with
  | nil => rfl
  | cons h t ih => rw [List.any_cons, List.any_cons, ih, h.1]
theorem PK.repl {kds : List (Key × D)} {kvs : List (Key × V)} (r : PK K cA F H kds kvs) (k : Key) {d : D} {v : V} (q : Rep K cA F H d v no) : PK K cA F H (kds.map fun kv => if kv.1 = k then (kv.1, d) else kv) (kvs.map fun kv => if kv.1 = k then (kv.1, v) else kv) := by
  unfold PK at r ⊢
  induction r with
  | nil => exact .nil
  | @cons p p' ps ps' h t ih =>
    refine .cons ?_ ih
    show ((if p.1 = k then (p.1, d) else p) : Key × D).1 = ((if p'.1 = k then (p'.1, v) else p') : Key × V).1 ∧ Rep K cA F H ((if p.1 = k then (p.1, d) else p) : Key × D).2 ((if p'.1 = k then (p'.1, v) else p') : Key × V).2 no
    by_cases e : p.1 = k
    · rw [if_pos e, if_pos (h.1.symm.trans e)]; exact ⟨h.1, q⟩
    · rw [if_neg e, if_neg (fun z => e (h.1.trans z))]; exact h
theorem PK.snoc {kds : List (Key × D)} {kvs : List (Key × V)} (r : PK K cA F H kds kvs) (k : Key) {d : D} {v : V} (q : Rep K cA F H d v no) : PK K cA F H (kds ++ [(k, d)]) (kvs ++ [(k, v)]) := by
  unfold PK at r ⊢
  induction r with
  | nil => exact .cons ⟨rfl, q⟩ .nil
  | cons h t ih => exact .cons h ih
theorem PK.put {kds : List (Key × D)} {kvs : List (Key × V)} (r : PK K cA F H kds kvs) (k : Key) {d : D} {v : V} (q : Rep K cA F H d v no) : PK K cA F H (putD kds k d) (putK kvs k v) := by
  unfold putD putK
  rw [r.any k]
  by_cases e : (kvs.any fun kv => decide (kv.1 = k)) = true
  · rw [if_pos e, if_pos e]; exact r.repl k q
  · rw [if_neg e, if_neg e]; exact r.snoc k q
theorem PK.merge {more : List (Key × D)} {mvs : List (Key × V)} (m : PK K cA F H more mvs) : ∀ {kds : List (Key × D)} {kvs : List (Key × V)}, PK K cA F H kds kvs → PK K cA F H (mergeD kds more) (mergeK kvs mvs) := by
  unfold PK at m
  induction m with
  | nil => intro kds kvs r; exact r
  | @cons p p' ps ps' h t ih =>
    intro kds kvs r
    unfold mergeD mergeK
    rw [List.foldl_cons, List.foldl_cons, ← h.1]
    exact ih (r.put p.1 h.2)
theorem PK.val {kds : List (Key × D)} {kvs : List (Key × V)} (r : PK K cA F H kds kvs) (k : Key) : (valD kds k = none ∧ valV kvs k = none) ∨ ∃ d v, valD kds k = some d ∧ valV kvs k = some v ∧ Rep K cA F H d v no := by
  unfold PK at r
  induction r with
  | nil => exact .inl ⟨rfl, rfl⟩
  | @cons p p' ps ps' h t ih =>
    unfold valD valV at *
    rw [List.find?_cons, List.find?_cons]
    by_cases e : p.1 = k
    · rw [← h.1]
      simp only [e, decide_true]
      exact .inr ⟨_, _, rfl, rfl, h.2⟩
    · rw [← h.1]
      simp only [e, decide_false]
      exact ih
theorem PK.len {kds : List (Key × D)} {kvs : List (Key × V)} (r : PK K cA F H kds kvs) : kds.length = kvs.length := by
  unfold PK at r
  induction r with
  | nil => rfl
  | cons h t ih => rw [List.length_cons, List.length_cons, ih]
/-- as the tree of a dict tells it -/
theorem PK.tree {kds : List (Key × D)} {kvs : List (Key × V)} (r : PK K cA F H kds kvs) : kvs = (kds.map (·.1)).zip (kvs.map (·.2)) ∧ (kds.map (·.1)).length = (kvs.map (·.2)).length ∧ Reps K cA F H (kds.map (·.2)) (kvs.map (·.2)) no := by
  unfold PK at r
  induction r with
  | nil => exact ⟨rfl, rfl, rfl⟩
  | @cons p p' ps ps' h t ih =>
    obtain ⟨h1, h2, h3⟩ := ih
    refine ⟨?_, by simpa using h2, _, _, no, no, rfl, ⟨fun _ x => x, fun _ x => x, fun _ x => x.elim⟩, h.2, h3⟩
    rw [List.map_cons, List.map_cons, List.zip_cons_cons, ← h1, h.1]
theorem Rep.no {d : D} {v : V} {A : FP} (z : ∀ b, A b → False) (r : Rep K cA F H d v A) : Rep K cA F H d v T.no := r.move (fun _ x => x) (fun _ _ _ e => e) fun b x => (z b x).elim
theorem PK.of : ∀ {ks : List Key} {ds : List D} {vs : List V}, ks.length = vs.length → Reps K cA F H ds vs no → PK K cA F H (ks.zip ds) (ks.zip vs)
  | [], ds, vs, _, _ => by simp [PK]; exact .nil
  | k :: ks, [], vs, l, r => by cases r; cases l
  | k :: ks, d :: ds, vs, l, r => by
    obtain ⟨v, vs', A1, A2, rfl, s, q, rs⟩ := r
    rw [List.zip_cons_cons, List.zip_cons_cons]
    exact .cons ⟨rfl, Rep.no s.l q⟩ (PK.of (by simpa using l) (rs.move (fun _ x => x) (fun _ _ _ e => e) fun b x => (s.r b x).elim))
theorem prs_of : ∀ {ds : List D} {vs : List V} {prs : List (Key × D)}, prsD ds = some prs → Reps K cA F H ds vs no → ∃ (ps : List Addr) (kvs : List (Key × V)), vs = ps.map V.ref ∧ Paired (fun p kv => SqT K H p [kV kv.1, kv.2]) ps kvs ∧ PK K cA F H prs kvs
  | [], _, _, e, r => by
    cases e
    cases r
    exact ⟨[], [], rfl, .nil, .nil⟩
  | d :: ds, _, prs, e, r => by
    obtain ⟨v, vs', A1, A2, rfl, s, q, rs⟩ := r
    unfold prsD at e
    split at e
    · rename_i h
      cases h
    · rename_i k x ds' h
      cases h
      split at e
      · rename_i k' r' ek er
        cases e
        obtain ⟨a, ws, rfl, t, kv, ws', B1, B2, rfl, s2, q1, dv, ws2, B3, B4, rfl, s3, q2, q3⟩ := q
        cases q3
        obtain ⟨ps, kvs, rfl, h1, h2⟩ := prs_of er (rs.move (fun _ x => x) (fun _ _ _ e => e) fun b x => (s.r b x).elim)
        rw [keyD_rep ek q1] at t
        exact ⟨a :: ps, (k', dv) :: kvs, rfl, .cons t.sq h1, .cons ⟨rfl, Rep.no (fun b x => s.l b (s2.r b (s3.l b x))) q2⟩ h2⟩
      · cases e
    · cases e
end
theorem end_dK {K : Frag} {L : Lc} {F A : FP} {H : Hp} {σ : L2.St} {Q : VK} {kds : List (Key × D)} {kvs : List (Key × V)} {ρ : Ro} {p : Addr} (st : Sta F (un A no) H) (en : EnvL K L F H ρ σ A) (q : PK K L.cA F H kds kvs) (np : H p = none)
    (po : Post K L rE F (un A no) H σ Q (.ok (.dK true (kds.map (·.1)) (kds.map (·.2))) ρ)) : Q (.ref p) (upd H p (.dK kvs)) := by
  have s := new_step (o := .dK kvs) st np (fun _ z => nomatch z)
  have nB : ∀ b, A b → b ≠ p := fun b x z => st.dom b (.inr (.inl x)) (by rw [z]; exact np)
  obtain ⟨h1, h2, h3⟩ := q.tree
  refine po _ _ F A (· = p) (s.sub fun b x => x.elim (fun x => .inl (.inl x)) .inr) (fun b x y => nB b x y) (en.move (fun _ x => x) (fun b o _ e => new_keep np b o e) fun _ x => x) ?_
  exact ⟨p, kvs.map (·.2), no, rfl, by rw [← h1]; exact upd_same, h2, rfl, fun b x => x.elim, h3.move (fun _ x => x) (fun b o _ e => new_keep np b o e) fun _ x => x⟩
def rDictP (K : Frag) : List V → Hp → VK → Prop := fun xs H Q => ∃ (a : Addr) (ps : List Addr) (kvs : List (Key × V)), xs = [.ref a] ∧ SqL K H a (ps.map V.ref) ∧ Paired (fun p kv => SqT K H p [kV kv.1, kv.2]) ps kvs ∧ ∀ p, H p = none → Q (.ref p) (upd H p (.dK (mergeK [] kvs)))
def oDictP : List D → Ro → R D
  | [.lst _ ds], ρ => match prsD (fzs ds) with
    | some prs => .ok (.dK true ((mergeD [] prs).map (·.1)) ((mergeD [] prs).map (·.2))) ρ
    | none => .bad
  | _, _ => .bad
section
variable {X : Cx} {L : Lc} {pos p : Pos} {e : Expr} {es : List Expr} {ms : Ro → R (List D)} {ma mb : Ro → R D}
theorem on_dictP {K : Frag} : OpN K L (rDictP K) oDictP := by
  intro F A B H σ Q ds vs ρ st dj en q p
  unfold oDictP at p
  split at p
  · rename_i o ds
    split at p
    · rename_i prs ep
      obtain ⟨v, vs', B1, B2, rfl, s, r0, rs⟩ := q
      obtain ⟨a, ws, A', rfl, t, z, r⟩ := r0.lst
      cases rs
      have s1 := frz_step st dj
      have q1 := r.fz (F' := un F B) (fun b x => .inr (s.l b (z b x))) (fun _ x => .inl x)
      have en1 := en.move (F' := un F B) (A' := A) (fun _ x => .inl x) (fun _ _ _ e => e) fun _ x => x
      have st1 : Sta (un F B) (un A no) H := s1.sta.sub fun b x => x.elim id False.elim
      obtain ⟨ps, kvs, rfl, h1, h2⟩ := prs_of ep q1
      refine ⟨a, ps, kvs, rfl, .inl t, h1, fun l np => end_dK st1 en1 (h2.merge .nil) np (Post.step (s1.sub fun b x => x.elim id False.elim) p)⟩
    · exact p.elim
  · exact p.elim
theorem de_dictP (hc : X.calm = true) (hm : X.mg "dict" = none) (ha : DA X L (e :: es) ms) (hg : Gl X "dict" := by rfl) (he : starEach (e :: es) X.env = (false, eval e X.env) :: starEach es X.env := by rfl) (hpl : (backTo pos (starEach es X.env)).any (·.1) = false := by rfl) :
    DE X L (.Call (.Name "dict" p) (e :: es) [] pos) (mN oDictP ms) := de_callTy (call_dictP hc) on_dictP hm (by decide +kernel) ha hg (by decide) (by decide) he hpl
end
end T
end

section
set_option Elab.async false
set_option linter.all false
set_option maxRecDepth 100000
set_option maxHeartbeats 1000000
namespace T
open PySem PySem.Spec PyProof.Rows L2
section
variable {X : Cx} {L : Lc} {pos p apos cpos : Pos} {x : Str} {o e : Expr} {ma mb m : Ro → R D}
/-! ### d.get(k), {} -/
def isDF : D → Bool
  | .dK false _ _ => true
  | _ => false
def oGet : D → D → Ro → R D := fun a b ρ => match a, keyD b with
  | .dK false ks ds, some k => .ok ((valD (ks.zip ds) k).getD .non) ρ
  | _, _ => .bad
def mGet (ma mb : Ro → R D) : Ro → R D := fun ρ => (ma ρ).bind fun a ρ1 => if isDF a then (mb ρ1).bind fun b ρ2 => oGet a b ρ2 else .bad
theorem de_get (hu : X.A.units + 64 < cLine) (ho : DE X L o ma) (he : DE X L e mb)
    (h1 : attributeBase o (Str.ofString "get") X.env (eval o X.env) = eval o X.env := by rfl)
    (h2 : ((backTo cpos (starEach [e] X.env)).all (fun x => !x.1) && (backToKw cpos (keywordEach [] X.env)).all (fun x => x.1.isSome) && decide (([e] : List Expr).length + ([] : List Keyword).length + (if ([] : List Keyword).isEmpty then 0 else 1) < 30)) = true := by rfl)
    (h3 : (apos.endLine == cpos.line) = true := by rfl) (h4 : backTo cpos (starEach [e] X.env) = [(false, eval e X.env)] := by rfl) :
    DE X L (.Call (.Attribute o (Str.ofString "get") apos) [e] [] cpos) (mGet ma mb) := ⟨pe_to (pe_dget1 (by omega) ho.pe he.pe ⟨h1, h2, h3, h4⟩) fun σ H Q h => by
  refine lft_bind h fun v1 H1 F1 A1 B1 d1 ρ1 st1 dj1 en1 q1 p1 => ?_
  split at p1
  · rename_i hd
    match d1, hd, q1, p1 with
    | .dK false ks ds, _, q1, p1 =>
      obtain ⟨a, vs, rfl, t, l, f, r⟩ := id q1
      refine ⟨a, rfl, .inl ⟨_, .inl t⟩, ?_⟩
      refine lft_rest st1 dj1 en1 p1 fun v2 H2 F2 A2 B2 d2 ρ2 st2 dj2 dj2' en2 q2 fr kb p2 => ?_
      obtain ⟨a2, vs2, e2, t2, l2, f2, r2⟩ := q1.move fr kb fun _ x => x
      cases e2
      unfold oGet at p2
      split at p2
      · rename_i ks' ds' k e3 e4
        cases e3
        have ev := keyD_rep e4 q2
        subst ev
        refine ⟨valV (ks.zip vs2) k, DGet.k t2, ?_⟩
        rcases (PK.of l2 r2).val k with ⟨g1, g2⟩ | ⟨d, v, g1, g2, g3⟩
        · rw [g1] at p2
          rw [g2]
          exact p2.val (A1 := A2) st2 (fun b x => .inl (.inl x)) en2 rfl
        · rw [g1] at p2
          rw [g2]
          exact p2.val (A1 := A2) st2 (fun b x => .inl (.inl x)) en2 g3
      · exact p2.elim
  · exact p1.elim⟩
def oDict0 : Ro → R D := fun ρ => .ok (.dK true [] []) ρ
theorem de_dict0 : DE X L (.Dict [] [] pos) oDict0 := ⟨pe_to pe_dnewK fun σ H Q ⟨ρ, F, A, st, en, po⟩ p np =>
  end_dK (kds := []) (kvs := []) (A := A) (st.sub fun b x => x.elim id False.elim) en .nil np (Post.step ((Step.refl st).sub fun b x => x.elim id False.elim) po)⟩
/-! ### a dict of the module -/
structure KTab (K : Frag) (cA : Cid → Addr) (w : World) (d : Addr) (tb : List (Str × D)) : Prop where
  keys : He.dicW K d = some (He.keysIn w.params (tb.map (·.1)))
  vals : ∀ kv ∈ tb, ∃ u, PySem.W.nsIn K d kv.1 = some (some u) ∧ KRep K cA kv.2 u
def lookT (tb : List (Str × D)) (z : Str) : Option D := (tb.find? fun kv => kv.1 == z).map (·.2)
end
theorem lit_find {P : Params} : ∀ {l : List DictEntry} {ks : List Str} {z : Str}, l.map He.keyOf = He.keysIn P ks → z ∉ ks → l.find? (·.key.isStr z) = none ∧ l.any (·.refKey) = false
  | [], _, _, _, _ => ⟨rfl, rfl⟩
  | e :: l, [], _, h, _ => by cases h
  | e :: l, k :: ks, z, h, hz => by
    have h1 : He.keyOf e :: l.map He.keyOf = some (k, PyData.keyHash P k) :: He.keysIn P ks := h
    injection h1 with h2 h3
    obtain ⟨a, b⟩ := lit_find h3 fun hm => hz (List.mem_cons_of_mem _ hm)
    have hk : z ≠ k := fun q => hz (by rw [q]; exact List.mem_cons_self)
    unfold He.keyOf at h2
    split at h2
    · rename_i x t q
      have h4 := Option.some.inj h2
      obtain ⟨h5, h6⟩ := Prod.mk.inj h4
      refine ⟨?_, ?_⟩
      · have e1 : e.key.isStr z = false := by
          rw [q, h5]
          show (k == z) = false
          exact beq_eq_false_iff_ne.mpr fun y => hk y.symm
        rw [List.find?_cons, e1]
        exact a
      · have e2 : e.refKey = false := by unfold DictEntry.refKey; rw [q]
        rw [List.any_cons, b, e2]
        rfl
    · cases h2
theorem KTab.none {K : Frag} {cA : Cid → Addr} {w : World} {d : Addr} {tb : List (Str × D)} (T : KTab K cA w d tb) {z : Str} (h : z ∉ tb.map (·.1)) : PySem.W.nsIn K d z = some none := by
  have k := T.keys
  unfold He.dicW at k
  unfold PySem.W.nsIn
  split at k
  · rename_i c es n sl hl
    split at k
    · obtain ⟨a, b⟩ := lit_find (Option.some.inj k) h
      rw [hl]
      simp only [a, b]
      rfl
    · cases k
  · cases k
theorem lookT_none : ∀ {tb : List (Str × D)} {z : Str}, lookT tb z = none → z ∉ tb.map (·.1)
  | [], _, _ => by simp
  | kv :: tb, z, h => by
    unfold lookT at h
    rw [List.find?_cons] at h
    by_cases e : (kv.1 == z) = true
    · rw [e] at h; cases h
    · simp only [e] at h
      have := lookT_none (tb := tb) (z := z) h
      intro hm
      rw [List.map_cons] at hm
      rcases List.mem_cons.mp hm with q | q
      · exact e (by rw [q]; exact beq_self_eq_true _)
      · exact this q
theorem lookT_some {tb : List (Str × D)} {z : Str} {d : D} (h : lookT tb z = some d) : (z, d) ∈ tb := by
  unfold lookT at h
  obtain ⟨kv, h1, h2⟩ := Option.map_eq_some_iff.mp h
  have h3 := List.find?_some h1
  have h4 := List.mem_of_find?_eq_some h1
  have h5 : kv.1 = z := eq_of_beq h3
  rw [← h5, ← h2]
  exact h4
theorem KTab.look {K : Frag} {cA : Cid → Addr} {w : World} {d : Addr} {tb : List (Str × D)} (T : KTab K cA w d tb) (z : Str) : (lookT tb z = Option.none ∧ PySem.W.nsIn K d z = some Option.none) ∨ ∃ x u, lookT tb z = some x ∧ PySem.W.nsIn K d z = some (some u) ∧ KRep K cA x u := by
  cases e : lookT tb z with
  | none => exact .inl ⟨rfl, T.none (lookT_none e)⟩
  | some x =>
    obtain ⟨u, h1, h2⟩ := T.vals _ (lookT_some e)
    exact .inr ⟨x, u, rfl, h1, h2⟩
def KTabOf (K : Frag) (cA : Cid → Addr) (w : World) (mg : Str → Option Value) (x : Str) (tb : List (Str × D)) : Prop := ∃ d, mg x = some (.ref d) ∧ KTab K cA w d tb
def mInK (tb : List (Str × D)) (m : Ro → R D) : Ro → R D := fun ρ => (m ρ).bind fun d ρ1 => match d with
  | .str z => .ok (.bl (lookT tb z).isSome) ρ1
  | _ => .bad
def mNinK (tb : List (Str × D)) (m : Ro → R D) : Ro → R D := fun ρ => (m ρ).bind fun d ρ1 => match d with
  | .str z => .ok (.bl (!(lookT tb z).isSome)) ρ1
  | _ => .bad
def mItK (tb : List (Str × D)) (m : Ro → R D) : Ro → R D := fun ρ => (m ρ).bind fun d ρ1 => match d with
  | .str z => (match lookT tb z with
    | some x => .ok x ρ1
    | none => .bad)
  | _ => .bad
section
variable {X : Cx} {L : Lc} {pos p apos cpos : Pos} {x : Str} {o e : Expr} {ma mb m : Ro → R D} {tb : List (Str × D)}
theorem both_inK (kt : KTabOf X.K L.cA X.w X.mg x tb) (ha : DE X L e m) (hg : Gl X x := by rfl) (hd : (x == ("__debug__" : Str)) = false := by decide) : DE X L (.Compare e [.In] [.Name x p] pos) (mInK tb m) ∧ DT X L (.Compare e [.In] [.Name x p] pos) (mT (mInK tb m)) := by
  obtain ⟨d, hm, kt⟩ := kt
  obtain ⟨es, n, KD⟩ := He.dicW_ok kt.keys
  have kk : ∀ σ H Q, lft X.K L rE (mInK tb m) σ H Q → tOp (fun x y H Q => ∃ (z : Str) (r : Option Value), x = .str z ∧ y = .ref d ∧ PySem.W.nsIn X.K d z = some r ∧ Q (.bl r.isSome) H) (lft X.K L rE m) (tC (.ref d)) σ H Q := fun σ H Q h => by
    refine lft_bind h fun v1 H1 F1 A1 B1 d1 ρ1 st1 dj1 en1 q1 p1 => ?_
    show ∃ (z : Str) (r : Option Value), _
    split at p1
    · rename_i z
      rcases kt.look z with ⟨e1, e2⟩ | ⟨y, u, e1, e2, _⟩
      · rw [e1] at p1
        exact ⟨z, _, q1, rfl, e2, p1.leaf (w := .bl _) rfl st1 (fun b x => .inl x) en1⟩
      · rw [e1] at p1
        exact ⟨z, _, q1, rfl, e2, p1.leaf (w := .bl _) rfl st1 (fun b x => .inl x) en1⟩
    · exact p1.elim
  exact ⟨⟨pe_to (pe_cmpR (L2.op_in_kd KD) ha.pe (pe_glob (v := .ref d) hg hm rfl hd) rfl) kk⟩, ⟨pt_to (pt_cmpR (L2.op_in_kd KD) ha.pe (pe_glob (v := .ref d) hg hm rfl hd) rfl) fun σ H Q h => lft_T kk σ H Q h⟩⟩
theorem de_inK (kt : KTabOf X.K L.cA X.w X.mg x tb) (ha : DE X L e m) (hg : Gl X x := by rfl) (hd : (x == ("__debug__" : Str)) = false := by decide) : DE X L (.Compare e [.In] [.Name x p] pos) (mInK tb m) := (both_inK kt ha hg hd).1
theorem dt_inK (kt : KTabOf X.K L.cA X.w X.mg x tb) (ha : DE X L e m) (hg : Gl X x := by rfl) (hd : (x == ("__debug__" : Str)) = false := by decide) : DT X L (.Compare e [.In] [.Name x p] pos) (mT (mInK tb m)) := (both_inK kt ha hg hd).2
theorem both_ninK (kt : KTabOf X.K L.cA X.w X.mg x tb) (ha : DE X L e m) (hg : Gl X x := by rfl) (hd : (x == ("__debug__" : Str)) = false := by decide) : DE X L (.Compare e [.NotIn] [.Name x p] pos) (mNinK tb m) ∧ DT X L (.Compare e [.NotIn] [.Name x p] pos) (mT (mNinK tb m)) := by
  obtain ⟨d, hm, kt⟩ := kt
  obtain ⟨es, n, KD⟩ := He.dicW_ok kt.keys
  have kk : ∀ σ H Q, lft X.K L rE (mNinK tb m) σ H Q → tOp (fun x y H Q => ∃ (z : Str) (r : Option Value), x = .str z ∧ y = .ref d ∧ PySem.W.nsIn X.K d z = some r ∧ Q (.bl (!r.isSome)) H) (lft X.K L rE m) (tC (.ref d)) σ H Q := fun σ H Q h => by
    refine lft_bind h fun v1 H1 F1 A1 B1 d1 ρ1 st1 dj1 en1 q1 p1 => ?_
    show ∃ (z : Str) (r : Option Value), _
    split at p1
    · rename_i z
      rcases kt.look z with ⟨e1, e2⟩ | ⟨y, u, e1, e2, _⟩
      · rw [e1] at p1
        exact ⟨z, _, q1, rfl, e2, p1.leaf (w := .bl _) rfl st1 (fun b x => .inl x) en1⟩
      · rw [e1] at p1
        exact ⟨z, _, q1, rfl, e2, p1.leaf (w := .bl _) rfl st1 (fun b x => .inl x) en1⟩
    · exact p1.elim
  exact ⟨⟨pe_to (pe_cmpR (L2.op_notIn_kd KD) ha.pe (pe_glob (v := .ref d) hg hm rfl hd) rfl) kk⟩, ⟨pt_to (pt_cmpR (L2.op_notIn_kd KD) ha.pe (pe_glob (v := .ref d) hg hm rfl hd) rfl) fun σ H Q h => lft_T kk σ H Q h⟩⟩
theorem de_ninK (kt : KTabOf X.K L.cA X.w X.mg x tb) (ha : DE X L e m) (hg : Gl X x := by rfl) (hd : (x == ("__debug__" : Str)) = false := by decide) : DE X L (.Compare e [.NotIn] [.Name x p] pos) (mNinK tb m) := (both_ninK kt ha hg hd).1
theorem dt_ninK (kt : KTabOf X.K L.cA X.w X.mg x tb) (ha : DE X L e m) (hg : Gl X x := by rfl) (hd : (x == ("__debug__" : Str)) = false := by decide) : DT X L (.Compare e [.NotIn] [.Name x p] pos) (mT (mNinK tb m)) := (both_ninK kt ha hg hd).2
theorem de_itK (kt : KTabOf X.K L.cA X.w X.mg x tb) (ha : DE X L e m) (hg : Gl X x := by rfl) (hd : (x == ("__debug__" : Str)) = false := by decide) (hs : PlainIx e := by exact fun _ _ => rfl) : DE X L (.Subscript (.Name x p) e pos) (mItK tb m) := by
  obtain ⟨d, hm, kt⟩ := kt
  obtain ⟨es, n, KD⟩ := He.dicW_ok kt.keys
  refine ⟨pe_to (pe_ix L2.ix_kdict (pe_glob (v := .ref d) hg hm rfl hd) ha.pe hs) fun σ H Q h => ?_⟩
  show lft X.K L rE m σ H _
  refine lft_bind h fun v1 H1 F1 A1 B1 d1 ρ1 st1 dj1 en1 q1 p1 => ?_
  split at p1
  · rename_i z
    rcases kt.look z with ⟨e1, e2⟩ | ⟨y, u, e1, e2, v, r, kr⟩
    · rw [e1] at p1; exact p1.elim
    · rw [e1] at p1
      exact ⟨d, z, v, rfl, q1, ⟨es, n, u, KD.at_, KD.lit, e2, r⟩, p1.val (A1 := A1) st1 (fun b x => .inl x) en1 (kr _ _ _)⟩
  · exact p1.elim
end
/-! ### a tuple of the module -/
theorem krep_tup {K : Frag} {cA : Cid → Addr} {a : Addr} {o : Obj} {its : List Value} {n : Nat} {ds : List D} (hl : K.lookup a = some o) (hc : o.cls = .type "tuple") (hd : o.data = .seq its.toArray n) (hs : its.length ≤ 1000) (h : ∃ vs, Vals vs its ∧ ∀ F H A, Reps K cA F H ds vs A) : KRep K cA (.tup ds) (.ref a) := by
  obtain ⟨vs, rv, k⟩ := h
  refine ⟨.ref a, rfl, fun F H A => ⟨a, vs, rfl, .inr ⟨o, its.toArray, n, hl, hc, hd, ?_, by simpa using rv⟩, k F H A⟩⟩
  have : (1000 : Nat) ≤ sizeLine := by rw [PySem.sizeLine_eq]; omega
  rw [List.size_toArray]
  omega
theorem kreps_nil {K : Frag} {cA : Cid → Addr} : ∃ vs, Vals vs [] ∧ ∀ F H A, Reps K cA F H [] vs A := ⟨[], .nil, fun _ _ _ => rfl⟩
theorem kreps_cons {K : Frag} {cA : Cid → Addr} {d : D} {u : Value} {ds : List D} {us : List Value} (h : KRep K cA d u) (k : ∃ vs, Vals vs us ∧ ∀ F H A, Reps K cA F H ds vs A) : ∃ vs, Vals vs (u :: us) ∧ ∀ F H A, Reps K cA F H (d :: ds) vs A := by
  obtain ⟨v, r, h⟩ := h
  obtain ⟨vs, rs, k⟩ := k
  exact ⟨v :: vs, .cons r rs, fun F H A => ⟨v, vs, no, no, rfl, ⟨fun _ x => x.elim, fun _ x => x.elim, fun _ x => x.elim⟩, h F H no, k F H no⟩⟩
/-- t.index(x) of a tuple of texts of the module -/
structure KStrs (K : Frag) (mg : Str → Option Value) (x : Str) (ys : List Str) : Prop where
  ex : ∃ a o its n, mg x = some (.ref a) ∧ K.lookup a = some o ∧ o.cls = .type "tuple" ∧ o.dict = none ∧ o.data = .seq its n ∧ its.size ≤ sizeLine ∧ Vals (ys.map V.str) its.toList
def mTix (ys : List Str) (m : Ro → R D) : Ro → R D := fun ρ => (m ρ).bind fun d ρ1 => match d with
  | .str z => (match ys.findIdx? (· == z) with
    | some j => .ok (.int (j : Nat)) ρ1
    | none => .bad)
  | _ => .bad
section
variable {X : Cx} {L : Lc} {pos p apos cpos : Pos} {x : Str} {e : Expr} {m : Ro → R D} {ys : List Str}
theorem de_tix (kt : KStrs X.K X.mg x ys) (he : DE X L e m) (hg : Gl X x := by rfl) (hd : (x == ("__debug__" : Str)) = false := by decide)
    (h1 : attributeBase (.Name x p) (Str.ofString "index") X.env (eval (.Name x p) X.env) = eval (.Name x p) X.env := by rfl) (h2 : ((((backTo pos (starEach (e :: []) X.env)).all fun x => !x.1) && (backToKw pos (keywordEach [] X.env)).all fun x => x.1.isSome) && decide ((e :: []).length + ([] : List Keyword).length + (if ([] : List Keyword).isEmpty = true then 0 else 1) < 30)) = true := by rfl)
    (h3 : (apos.endLine == pos.line) = true := by rfl) (h4 : starEach (e :: []) X.env = (false, eval e X.env) :: starEach [] X.env := by rfl) (h5 : (backTo pos (starEach [] X.env)).any (·.1) = false := by rfl) :
    DE X L (.Call (.Attribute (.Name x p) (Str.ofString "index") apos) [e] [] pos) (mTix ys m) := by
  obtain ⟨a, ob, its, n, hm, k1, k2, k3, k4, k5, k6⟩ := kt.ex
  refine ⟨pe_to (pe_bm F.plainAttrs_tuple F.slot_tuple_index F.type_tuple_index mt_tup_index (pe_glob (v := .ref a) hg hm rfl hd) (pa_cons he.pe pa_nil h4) h1 h2 h3 h4 h5) fun σ H Q h => ?_⟩
  refine ⟨.inr (.inl ⟨rfl, ob, k1, k2, k3⟩), ?_⟩
  show lft X.K L rE m σ H _
  refine lft_bind h fun v1 H1 F1 A1 B1 d1 ρ1 st1 dj1 en1 q1 p1 => ?_
  split at p1
  · rename_i z
    split at p1
    · rename_i j ej
      obtain ⟨hj, h2', h3'⟩ := List.findIdx?_eq_some_iff_getElem.mp ej
      refine ⟨a, ys, z, j, rfl, by rw [q1], .inr ⟨ob, its, n, k1, k2, k4, k5, k6⟩, ?_, fun i hi => ?_, p1.leaf (w := .int _) rfl st1 (fun b x => .inl x) en1⟩
      · rw [List.getElem?_eq_getElem hj]
        exact congrArg some (eq_of_beq h2')
      · intro q
        have hi' : i < ys.length := by omega
        rw [List.getElem?_eq_getElem hi'] at q
        have := h3' i hi
        rw [Option.some.inj q, beq_self_eq_true] at this
        exact this rfl
    · exact p1.elim
  · exact p1.elim
end
end T
end

section
set_option Elab.async false
set_option linter.all false
set_option maxRecDepth 100000
set_option maxHeartbeats 1000000
namespace T
open PySem PySem.Spec PyProof.Rows L2
/-! ### d.update(e), e a dict -/
def rUpd : V → List V → Hp → VK → Prop := fun x xs H Q => ∃ (a b : Addr) (kvs more : List (Key × V)), x = .ref a ∧ xs = [.ref b] ∧ a ≠ b ∧ H a = some (.dK kvs) ∧ Rd H b (.dK more) ∧ kvs.length + more.length ≤ sizeLine ∧ Q .non (upd H a (.dK (mergeK kvs more)))
theorem mt_upd {X : Cx} : MtM X "dict.update" rUpd := by
  intro pins s σ H x xs v us Q I rx rxs h
  obtain ⟨a, b, kvs, more, rfl, rfl, ne, ha, hb, hz, q⟩ := h
  cases rx
  obtain ⟨u, rfl, ru⟩ := rxs.one
  cases ru
  obtain ⟨z, hd, vs, rel, dd⟩ := dk_of I.hok ha
  obtain ⟨z2, hd2, vs2, rel2, dd2⟩ := dk_rd I.hok hb
  refine call_meetsIn PySem.F.slot_dict_update dd.typeIs PySem.F.entry_dict_update (PySem.F.args_dict_update_2 _ _) (meets_dict_update (mixKind X.prog X.w) a b ne hd2)
    ⟨vs, vs2, dd, dd2, (by rw [← rel.length, ← rel2.length]; exact hz), fun h' dd' _ hs => ?_⟩
  have hl : (mergeK kvs more).length ≤ sizeLine := Nat.le_trans (length_mergeK more kvs) hz
  have he : ∃ q, h'.get? a = some q := let ⟨q, _, _, hq, _⟩ := dd'; ⟨q, hq⟩
  exact ⟨.non, _, d_write (t' := s.toks) I (by rw [ha]; exact True.intro) hs he (dk_new hl hd (KV.merge rel2 rel) dd'), rfl, q⟩
def lf (d : D) : Bool := (leaf d).isSome
section
variable {K : Frag} {cA : Cid → Addr} {F A B : FP} {H : Hp}
theorem Rep.lf {d : D} {v : V} {A : FP} (h : lf d = true) (r : Rep K cA F H d v A) : Rep K cA F H d v T.no := by
  cases d <;> first | exact r | cases h
theorem Reps.lf : ∀ {ds : List D} {vs : List V} {A : FP}, ds.all T.lf = true → Reps K cA F H ds vs A → Reps K cA F H ds vs T.no
  | [], _, _, _, r => r
  | d :: ds, _, _, h, r => by
    obtain ⟨v, vs', A1, A2, rfl, s, q, rs⟩ := r
    rw [List.all_cons, Bool.and_eq_true] at h
    exact ⟨v, vs', T.no, T.no, rfl, ⟨fun _ x => x, fun _ x => x, fun _ x => x.elim⟩, Rep.lf h.1 q, Reps.lf h.2 rs⟩
variable {L : Lc} {ρ : Ro} {σ : L2.St} {i : Nat} {ks : List Key} {ds : List D}
theorem EnvL.updD (en : EnvL K L F H ρ σ A) (e : ρ[i]? = some (some (.dK true ks ds))) (st : Sta F (un A B) H) (dj : Dj A B) :
    ∃ a vs, σ[i]? = some (some (.ref a)) ∧ H a = some (.dK (ks.zip vs)) ∧ A a ∧ ks.length = vs.length ∧ (∃ A', Reps K L.cA F H ds vs A') ∧ ∀ kds kvs, PK K L.cA F H kds kvs →
      Step F (un A B) H F (un A B) (upd H a (.dK kvs)) ∧ EnvL K L F (upd H a (.dK kvs)) (ρ.set i (some (.dK true (kds.map (·.1)) (kds.map (·.2))))) σ (un A B) := by
  obtain ⟨v, A1, A2, e1, s, r, rs⟩ := en.env.take e
  obtain ⟨a, vs, A', rfl, t, l, ma, sa, rr⟩ := r
  refine ⟨a, vs, e1, t, s.l a ma, l, ⟨_, rr⟩, fun kds kvs pk => ?_⟩
  have nF : ∀ b, F b → b ≠ a := fun b x z => st.dj b (.inl (s.l b (by rw [z]; exact ma))) x
  have n2 : ∀ b, A2 b → b ≠ a := fun b x z => s.d b (by rw [z]; exact ma) x
  have step := upd_step (w := .dK kvs) st t (.inl (s.l a ma)) (fun _ z => nomatch z)
  obtain ⟨h1, h2, h3⟩ := pk.tree
  have r2 : Reps K L.cA F (upd H a (.dK kvs)) (kds.map (·.2)) (kvs.map (·.2)) T.no := h3.move (fun _ x => x) (upd_keep fun b x => x.elim (nF b) fun x => x.elim) fun _ x => x
  have r3 : Rep K L.cA F (upd H a (.dK kvs)) (.dK true (kds.map (·.1)) (kds.map (·.2))) (.ref a) A1 := ⟨a, kvs.map (·.2), T.no, rfl, by rw [← h1]; exact upd_same, h2, ma, fun b x => x.elim, r2⟩
  have rs' := rs.move (F' := F) (H' := upd H a (.dK kvs)) (fun _ x => x) (upd_keep fun b x => x.elim (nF b) (n2 b)) (fun _ x => x)
  have en' := rs'.back (i := i) r3 (fun b x y => s.d b y x) e1
  rw [List.set_set] at en'
  exact ⟨step, en'.move (fun _ x => x) (fun _ _ _ e => e) fun b x => .inl (x.elim (s.r b) (s.l b)), en.pin⟩
end
/-- x.update(e): leaves alone -/
def mUpd (i : Nat) (m : Ro → R D) : Ro → RS := fun ρ => match ρ[i]? with
  | some (some (.dK true _ _)) => bS (m ρ) fun d ρ1 => (match ρ1[i]?, d with
    | some (some (.dK true ks ds)), .dK _ ks2 ds2 => if ds.all lf && ds2.all lf && decide ((ks.zip ds).length + (ks2.zip ds2).length ≤ 1000) then
        .nx (ρ1.set i (some (.dK true ((mergeD (ks.zip ds) (ks2.zip ds2)).map (·.1)) ((mergeD (ks.zip ds) (ks2.zip ds2)).map (·.2))))) else .bad
    | _, _ => .bad)
  | _ => .bad
section
variable {X : Cx} {L : Lc} {pos apos p : Pos} {x : Str} {e : Expr} {m : Ro → R D}
theorem Rep.dK {K : Frag} {cA : Cid → Addr} {F A : FP} {H : Hp} {o : Bool} {ks : List Key} {ds : List D} {v : V} (r : Rep K cA F H (.dK o ks ds) v A) : ∃ b vs, v = .ref b ∧ H b = some (.dK (ks.zip vs)) ∧ ks.length = vs.length ∧ (A b ∨ F b) ∧ ∃ A', Reps K cA F H ds vs A' := by
  cases o with
  | false => obtain ⟨a, vs, rfl, t, l, f, r⟩ := r; exact ⟨a, vs, rfl, t, l, .inr f, _, r⟩
  | true => obtain ⟨a, vs, A', rfl, t, l, f, _, r⟩ := r; exact ⟨a, vs, rfl, t, l, .inl f, _, r⟩
theorem ds_upd (i : Nat) (he : DE X L e m) (hN : X.N[i]? = some x := by rfl) (hv : Vis X.env.scope x := by first | exact Or.inl rfl | exact Or.inr (Or.inl rfl) | exact Or.inr (Or.inr rfl)) (hd : (x == ("__debug__" : Str)) = false := by decide) (hcd : (x == ("__classdict__" : Str)) = false := by decide)
    (h1 : attributeBase (.Name x p) (Str.ofString "update") X.env (eval (.Name x p) X.env) = eval (.Name x p) X.env := by rfl) (h2 : ((((backTo pos (starEach (e :: []) X.env)).all fun x => !x.1) && (backToKw pos (keywordEach [] X.env)).all fun x => x.1.isSome) && decide ((e :: []).length + ([] : List Keyword).length + (if ([] : List Keyword).isEmpty = true then 0 else 1) < 30)) = true := by rfl)
    (h3 : (apos.endLine == pos.line) = true := by rfl) (h4 : starEach (e :: []) X.env = (false, eval e X.env) :: starEach [] X.env := by rfl) (h5 : (backTo pos (starEach [] X.env)).any (·.1) = false := by rfl) (hs : swapsWith (.Call (.Attribute (.Name x p) (Str.ofString "update") apos) [e] [] pos) none pos.line X.env = pure false := by rfl) :
    DS X L (.Expr (.Call (.Attribute (.Name x p) (Str.ofString "update") apos) [e] [] pos) pos) (mUpd i m) :=
  ⟨ps_to (ps_expr (pe_bm F.plainAttrs_dict F.slot_dict_update F.type_dict_update mt_upd (pe_var hN hv hd hcd) (pa_cons he.pe pa_nil h4) h1 h2 h3 h4 h5) hs) fun Dn σ H ⟨ρ, F, A, st, en, po⟩ => by
  unfold mUpd at po
  split at po
  · rename_i ks0 ds0 e0
    obtain ⟨v, A1, A2, e1, s, r0, rs⟩ := en.env.take e0
    obtain ⟨a, vs, A', rfl, t, l, ma, sa, rr⟩ := r0
    refine ⟨.ref a, e1, .inr (.inr (.inl ⟨rfl, .inl ⟨_, t⟩⟩)), ?_⟩
    refine lftS_bind (m := m) ⟨ρ, F, A, st, en, po⟩ fun y H1 F1 A1' B1 d ρ1 st1 dj1 en1 q1 p1 => ?_
    split at p1
    · rename_i ks ds o2 ks2 ds2 e2
      split at p1
      · rename_i hc
        rw [Bool.and_eq_true, Bool.and_eq_true] at hc
        obtain ⟨⟨l1, l2⟩, hz⟩ := hc
        have hz := of_decide_eq_true hz
        obtain ⟨a2, vs2, e3, t2, ma2, hl, ⟨A3, rr2⟩, up⟩ := en1.updD e2 st1 dj1
        rw [e1] at e3
        cases e3
        obtain ⟨b, ws, rfl, tb, lb, fb, A4, rb⟩ := q1.dK
        have ne : a ≠ b := fun z => fb.elim (fun f => dj1 b (by rw [← z]; exact ma2) f) fun f => st1.dj b (.inl (by rw [← z]; exact ma2)) f
        have k1 := PK.of hl (rr2.lf l1)
        have k2 := PK.of lb (rb.lf l2)
        obtain ⟨s1, en2⟩ := up _ _ (k2.merge k1)
        have h1000 : (1000 : Nat) ≤ sizeLine := by rw [PySem.sizeLine_eq]; omega
        refine ⟨a, b, ks.zip vs2, ks2.zip ws, rfl, rfl, ne, t2, .inl tb, ?_, p1 σ _ _ _ s1 en2⟩
        rw [← k1.len, ← k2.len]
        omega
      · exact p1.elim
    · exact p1.elim
  · exact po.elim⟩
end
end T
end

section
set_option Elab.async false
set_option linter.all false
set_option maxRecDepth 100000
set_option maxHeartbeats 1000000
namespace T
open PySem PySem.Spec PyProof.Rows L2
/-! ### sorted(xs), a new list -/
def oSorted : List D → Ro → R D
  | [.lst _ ds], ρ => match toPys (fzs ds) with
    | some xs => if alikes xs && sortb xs && szOk xs.length && xs.all flat then .ok (.lst true (sortD (fzs ds))) ρ else .bad
    | none => .bad
  | _, _ => .bad
section
variable {K : Frag} {cA : Cid → Addr} {F : FP} {H : Hp}
theorem reps_zip : ∀ {ds : List D} {vs : List V}, Reps K cA F H ds vs no → (∀ t ∈ ds.zip vs, Rep K cA F H t.1 t.2 no) ∧ (ds.zip vs).map (·.1) = ds ∧ (ds.zip vs).map (·.2) = vs
  | [], _, r => by cases r; exact ⟨fun t h => by simp at h, rfl, rfl⟩
  | d :: ds, _, r => by
    obtain ⟨v, vs', A1, A2, rfl, s, q, rs⟩ := r
    obtain ⟨h1, h2, h3⟩ := reps_zip (rs.move (A' := no) (fun _ x => x) (fun _ _ _ e => e) fun b x => (s.r b x).elim)
    refine ⟨fun t h => ?_, by simp [h2], by simp [h3]⟩
    rw [List.zip_cons_cons] at h
    rcases List.mem_cons.mp h with rfl | h
    · exact Rep.no s.l q
    · exact h1 t h
theorem reps_ofZip : ∀ {l : List (D × V)}, (∀ t ∈ l, Rep K cA F H t.1 t.2 no) → Reps K cA F H (l.map (·.1)) (l.map (·.2)) no
  | [], _ => rfl
  | t :: l, h => ⟨t.2, l.map (·.2), no, no, rfl, ⟨fun _ x => x, fun _ x => x, fun _ x => x.elim⟩, h t List.mem_cons_self, reps_ofZip fun u hu => h u (List.mem_cons_of_mem _ hu)⟩
theorem toPys_map : ∀ {ds : List D} {xs : List PyData}, toPys ds = some xs → xs = ds.map pyD ∧ ∀ d ∈ ds, toPy d = some (pyD d)
  | [], _, e => by cases e; exact ⟨rfl, fun d h => by simp at h⟩
  | d :: ds, xs, e => by
    unfold toPys at e
    split at e
    · rename_i x ys e1 e2
      cases e
      obtain ⟨h1, h2⟩ := toPys_map e2
      have h3 : pyD d = x := by unfold pyD; rw [e1]; rfl
      refine ⟨by rw [List.map_cons, h3, ← h1], fun e he => ?_⟩
      rcases List.mem_cons.mp he with rfl | he
      · rw [h3]; exact e1
      · exact h2 e he
    · cases e
end
section
variable {X : Cx} {L : Lc} {pos p apos cpos : Pos} {x : Str} {o e : Expr} {es : List Expr} {ms : Ro → R (List D)} {ma mb m : Ro → R D}
theorem on_sorted {K : Frag} : OpN K L (rSortedD K) oSorted := by
  intro F A B H σ Q ds vs ρ st dj en q p
  unfold oSorted at p
  split at p
  · rename_i o ds
    split at p
    · rename_i xs ex
      split at p
      · rename_i hc
        rw [Bool.and_eq_true, Bool.and_eq_true, Bool.and_eq_true] at hc
        obtain ⟨⟨⟨c1, c2⟩, c3⟩, c4⟩ := hc
        obtain ⟨v, vs', B1, B2, rfl, s, r0, rs⟩ := q
        obtain ⟨a, ws, A', rfl, t, z, r⟩ := r0.lst
        cases rs
        have s1 := frz_step st dj
        have q1 := r.fz (F' := un F B) (fun b x => .inr (s.l b (z b x))) (fun _ x => .inl x)
        have en1 := en.move (F' := un F B) (A' := A) (fun _ x => .inl x) (fun _ _ _ e => e) fun _ x => x
        have st1 : Sta (un F B) (un A no) H := s1.sta.sub fun b x => x.elim id False.elim
        obtain ⟨ex1, ex2⟩ := toPys_map ex
        obtain ⟨k1, k2, k3⟩ := reps_zip q1
        have pf : (((fzs ds).zip ws).map fun t : D × V => (pyD t.1, t.2)).map (·.1) = xs := by
          rw [List.map_map, ex1, ← congrArg (List.map pyD) k2, List.map_map]
          rfl
        have pl : xs.length = ((fzs ds).zip ws).length := by rw [← pf, List.length_map, List.length_map]
        refine ⟨a, ((fzs ds).zip ws).map fun t => (pyD t.1, t.2), rfl, ?_, fun q hq => ?_, ?_, ?_, ?_, fun q hq => ?_, fun l np => ?_⟩
        · rw [List.map_map]
          have : (fun t : D × V => (pyD t.1, t.2).2) = fun t => t.2 := rfl
          show SqL K H a (((fzs ds).zip ws).map fun t => t.2)
          rw [k3]
          exact .inl t
        · obtain ⟨t, ht, rfl⟩ := List.mem_map.mp hq
          exact Rep.dp (ex2 t.1 (List.of_mem_zip ht).1) (k1 t ht)
        · rw [pf]; exact alikes_ok c1
        · rw [pf]; exact sortb_ok c2
        · rw [List.length_map, ← pl]; exact of_decide_eq_true c3
        · obtain ⟨t, ht, rfl⟩ := List.mem_map.mp hq
          have hx : pyD t.1 ∈ xs := by rw [ex1]; exact List.mem_map_of_mem (List.of_mem_zip ht).1
          exact of_decide_eq_true (List.all_eq_true.mp c4 _ hx)
        · have e1 : ((((fzs ds).zip ws).map fun t : D × V => (pyD t.1, t.2)).mergeSort (PySem.W.dataLe false (·.1))).map (·.2) = (((fzs ds).zip ws).mergeSort fun a b => leD a.1 b.1).map (·.2) := by
            have em := List.map_mergeSort (r := fun a b : D × V => leD a.1 b.1) (s := PySem.W.dataLe false fun q : PyData × V => q.1) (f := fun t : D × V => (pyD t.1, t.2)) (l := (fzs ds).zip ws) (fun a _ b _ => rfl)
            rw [← em, List.map_map]
            rfl
          have e2 : sortD (fzs ds) = (((fzs ds).zip ws).mergeSort fun a b => leD a.1 b.1).map (·.1) := by
            unfold sortD
            have em := List.map_mergeSort (r := fun a b : D × V => leD a.1 b.1) (s := leD) (f := fun t : D × V => t.1) (l := (fzs ds).zip ws) (fun a _ b _ => rfl)
            rw [em, k2]
          rw [e1]
          rw [e2] at p
          exact end_lst (A := A) (B := no) st1 (fun _ _ z => z.elim) en1 (reps_ofZip fun t ht => k1 t (List.mem_mergeSort.mp ht)) np (Post.step (s1.sub fun b x => x.elim id False.elim) p)
      · exact p.elim
    · exact p.elim
  · exact p.elim
theorem de_sorted (hu : X.A.units + 64 < cLine) (hm : X.mg "sorted" = none) (ha : DA X L (e :: es) ms) (hg : Gl X "sorted" := by rfl) (he : starEach (e :: es) X.env = (false, eval e X.env) :: starEach es X.env := by rfl) (hpl : (backTo pos (starEach es X.env)).any (·.1) = false := by rfl) :
    DE X L (.Call (.Name "sorted" p) (e :: es) [] pos) (mN oSorted ms) := de_callB (cr_sortedD hu) on_sorted hm PyProof.Rows.Boot.sorted ha hg (by decide) (by decide) he hpl
/-! ### xs[::-1] -/
def oRevL : D → Ro → R D
  | .lst _ ds, ρ => .ok (.lst true (fzs ds).reverse) ρ
  | _, _ => .bad
theorem de_rev {k : Nat} {p1 p2 p3 : Pos} (he : DE X L e m) : DE X L (.Subscript e (.Slice none none (some (.UnaryOp .USub (.Constant (.int 1) k p1) p2)) p3) pos) (m1 oRevL m) := ⟨pe_to (pe_revL he.pe) fun σ H Q h => by
  refine lft_bind h fun v1 H1 F1 A1 B1 d1 ρ1 st1 dj1 en1 q1 p1 => ?_
  unfold oRevL at p1
  split at p1
  · rename_i o ds
    obtain ⟨a, ws, A', rfl, t, z, r⟩ := q1.lst
    refine ⟨a, ws, rfl, .inl t, fun l np => ?_⟩
    have e1 : (fzs ds).reverse = fzs ds.reverse := fzs_rev.symm
    rw [e1] at p1
    exact end_lstF st1 dj1 en1 (r.rev.move (fun _ x => x) (fun _ _ _ e => e) z) np p1
  · exact p1.elim⟩
end
end T
end

section
set_option Elab.async false
set_option linter.all false
set_option maxRecDepth 100000
set_option maxHeartbeats 1000000
namespace T
open PySem PySem.Spec PyProof.Rows L2
/-! ### xs.count(x) -/
def rCntD (K : Frag) : V → List V → Hp → VK → Prop := fun x xs H Q => ∃ (a : Addr) (y : V) (d : PyData) (ds : List PyData), x = .ref a ∧ xs = [y] ∧ Dp K H (.ref a) (.list ds) ∧ Dp K H y d ∧ PyData.canLayAll0 ds = true ∧ d.canLay0 = true ∧ flats d ds = true ∧ Q (.int ((ds.countP fun z => PyData.eqv z d : Nat) : Int)) H
theorem mt_countD {X : Cx} (hu : X.A.units + 64 < cLine) : MtR X "list.count" (rCntD X.K) := by
  intro pins s σ H x xs v us Q I rx rxs h
  obtain ⟨a, y, d, ds, rfl, rfl, hl, hy, c1, c2, hf, q⟩ := h
  cases rx
  obtain ⟨u, rfl, ru⟩ := rxs.one
  obtain ⟨bs, r1⟩ := Dp.reads I d y u hy ru
  have hroom : X.A.units + 1 + min (PyData.depthAll ds) d.depth < cLine := flats_room hf hu
  cases hl with
  | lst hs ha =>
    obtain ⟨its, rv, ⟨⟨cls, dd, data, sls⟩, n, ho, hc, hdn, hdt⟩, hlen⟩ := I.list hs
    simp only at hc hdt
    subst hc hdt
    obtain ⟨as, h4⟩ := Dp.readsAll I ds _ its ha rv
    have hmap : its.map (SeqAt.readOf s.heap) = ds := SeqAt.readsAll_map ds its as c1 h4
    refine call_meets PySem.F.slot_list_count ⟨_, ho, rfl⟩ PySem.F.entry_list_count (PySem.F.args_list_count_2 _ _)
      (SeqAt.list_countAt a its.toArray n dd sls u (fun u => PyData.eqv (SeqAt.readOf s.heap u) d)) ⟨ho, SeqAt.items_eqAt (vs := its.toArray) (show ReadsAll s.heap its.toArray.toList ds as from h4) r1 c1 c2 hroom, ?_⟩
    have ec : its.toArray.toList.countP (fun u => PyData.eqv (SeqAt.readOf s.heap u) d) = ds.countP fun z => PyData.eqv z d := by
      rw [← hmap, List.countP_map]
      rfl
    refine ⟨.int ((ds.countP fun z => PyData.eqv z d : Nat) : Int), H, I.tok _, ⟨s.toks, ?_⟩, q⟩
    show Value.int ((its.toArray.toList.countP (fun u => PyData.eqv (SeqAt.readOf s.heap u) d) : Nat) : Int) s.toks = _
    rw [ec]
def isL : D → Bool
  | .lst _ _ => true
  | _ => false
def oCnt : D → D → Ro → R D := fun a b ρ => match a with
  | .lst _ ds => (match toPys ds, toPy b with
    | some xs, some x => if PyData.canLayAll0 xs && x.canLay0 && flats x xs then .ok (.int ((xs.countP fun z => PyData.eqv z x : Nat) : Int)) ρ else .bad
    | _, _ => .bad)
  | _ => .bad
/-- a method of a list with one argument -/
def mBm (ok : D → Bool) (op : D → D → Ro → R D) (ma mb : Ro → R D) : Ro → R D := fun ρ => (ma ρ).bind fun a ρ1 => if ok a then (mb ρ1).bind fun b ρ2 => op a b ρ2 else .bad
section
variable {X : Cx} {L : Lc} {pos p apos cpos : Pos} {x : Str} {o e : Expr} {es : List Expr} {ms : Ro → R (List D)} {ma mb m : Ro → R D}
theorem de_cnt (hu : X.A.units + 64 < cLine) (ho : DE X L o ma) (he : DE X L e mb)
    (h1 : attributeBase o (Str.ofString "count") X.env (eval o X.env) = eval o X.env := by rfl) (h2 : ((((backTo pos (starEach (e :: []) X.env)).all fun x => !x.1) && (backToKw pos (keywordEach [] X.env)).all fun x => x.1.isSome) && decide ((e :: []).length + ([] : List Keyword).length + (if ([] : List Keyword).isEmpty = true then 0 else 1) < 30)) = true := by rfl)
    (h3 : (apos.endLine == pos.line) = true := by rfl) (h4 : starEach (e :: []) X.env = (false, eval e X.env) :: starEach [] X.env := by rfl) (h5 : (backTo pos (starEach [] X.env)).any (·.1) = false := by rfl) :
    DE X L (.Call (.Attribute o (Str.ofString "count") apos) [e] [] pos) (mBm isL oCnt ma mb) := by
  refine ⟨pe_to (pe_bm F.plainAttrs_list F.slot_list_count F.type_list_count (mt_countD hu) ho.pe (pa_cons he.pe pa_nil h4) h1 h2 h3 h4 h5) fun σ H Q h => ?_⟩
  refine lft_bind h fun v1 H1 F1 A1 B1 d1 ρ1 st1 dj1 en1 q1 p1 => ?_
  split at p1
  · rename_i hd
    match d1, hd, q1, p1 with
    | .lst ow ds, _, q1, p1 =>
      obtain ⟨a, ws, A', rfl, t, z, r⟩ := q1.lst
      refine ⟨.inl ⟨rfl, ws, .inl t⟩, ?_⟩
      show lft X.K L rE mb σ H1 fun y H2 => rCntD X.K (.ref a) [y] H2 Q
      refine lft_rest st1 dj1 en1 p1 fun v2 H2 F2 A2 B2 d2 ρ2 st2 dj2 dj2' en2 q2 fr kb p2 => ?_
      have q1' := q1.move fr kb fun _ x => x
      unfold oCnt at p2
      simp only at p2
      split at p2
      · rename_i xs x e1 e2
        split at p2
        · rename_i hc
          rw [Bool.and_eq_true, Bool.and_eq_true] at hc
          obtain ⟨⟨c1, c2⟩, c3⟩ := hc
          exact ⟨a, v2, x, xs, rfl, rfl, Rep.dp (show toPy (.lst ow ds) = some (.list xs) from by simp [toPy, e1]) q1', Rep.dp e2 q2, c1, c2, c3, p2.leaf (w := .int _) rfl st2 (fun b x => .inl (.inl x)) en2⟩
        · exact p2.elim
      · exact p2.elim
  · exact p1.elim
/-- a fresh list's append, the list is dropped -/
def isLO : D → Bool
  | .lst true _ => true
  | _ => false
def oAppT : D → D → Ro → R D := fun a _ ρ => match a with
  | .lst true ds => if decide (ds.length < sizeLine) then .ok .non ρ else .bad
  | _ => .bad
theorem de_appT (ho : DE X L o ma) (he : DE X L e mb)
    (h1 : attributeBase o (Str.ofString "append") X.env (eval o X.env) = eval o X.env := by rfl) (h2 : ((((backTo pos (starEach (e :: []) X.env)).all fun x => !x.1) && (backToKw pos (keywordEach [] X.env)).all fun x => x.1.isSome) && decide ((e :: []).length + ([] : List Keyword).length + (if ([] : List Keyword).isEmpty = true then 0 else 1) < 30)) = true := by rfl)
    (h3 : (apos.endLine == pos.line) = true := by rfl) (h4 : starEach (e :: []) X.env = (false, eval e X.env) :: starEach [] X.env := by rfl) (h5 : (backTo pos (starEach [] X.env)).any (·.1) = false := by rfl) :
    DE X L (.Call (.Attribute o (Str.ofString "append") apos) [e] [] pos) (mBm isLO oAppT ma mb) := by
  refine ⟨pe_to (pe_bm F.plainAttrs_list F.slot_list_append F.type_list_append mt_append ho.pe (pa_cons he.pe pa_nil h4) h1 h2 h3 h4 h5) fun σ H Q h => ?_⟩
  refine lft_bind h fun v1 H1 F1 A1 B1 d1 ρ1 st1 dj1 en1 q1 p1 => ?_
  split at p1
  · rename_i hd
    match d1, hd, q1, p1 with
    | .lst true ds, _, q1, p1 =>
      obtain ⟨a, ws, A', rfl, t, ma', sa, r⟩ := id q1
      refine ⟨.inl ⟨rfl, ws, .inl (.inl t)⟩, ?_⟩
      show lft X.K L rE mb σ H1 fun y H2 => rAppend (.ref a) [y] H2 Q
      refine lft_rest st1 dj1 en1 p1 fun v2 H2 F2 A2 B2 d2 ρ2 st2 dj2 dj2' en2 q2 fr kb p2 => ?_
      obtain ⟨a2, ws2, A2', e2, t2, ma2, sa2, r2⟩ := q1.move fr kb fun _ x => x
      cases e2
      unfold oAppT at p2
      simp only at p2
      split at p2
      · rename_i hz
        refine ⟨a, ws2, v2, rfl, rfl, t2, by rw [← r2.len]; exact of_decide_eq_true hz, ?_⟩
        have nF : ∀ b, F2 b → b ≠ a := fun b x z => st2.dj b (.inr (by rw [z]; exact ma2)) x
        have nA : ∀ b, A2 b → b ≠ a := fun b x z => dj2' b (.inl x) (by rw [z]; exact ma2)
        have step := upd_step (w := .lst (ws2 ++ [v2])) st2 t2 (.inr ma2) (fun _ z => nomatch z)
        exact p2 .non _ F2 A2 no (step.sub fun b x => x.elim (fun x => .inl (.inl x)) False.elim) (fun _ _ z => z.elim) (en2.move (fun _ x => x) (upd_keep fun b x => x.elim (nF b) (nA b)) fun _ x => x) rfl
      · exact p2.elim
  · exact p1.elim
end
end T
end

section
set_option Elab.async false
set_option linter.all false
set_option maxRecDepth 100000
set_option maxHeartbeats 2000000
namespace T.NZ
open PySem PySem.Spec PyProof.Rows L2
/-! ### zip of a tuple and of a zip of tuples -/
/-- a zip, its last tuple out or not -/
def ZAny (h : Heap) (z TI TO : Addr) : Prop := ∃ own f, (own = Value.none ∨ ∃ T : Addr, own = rawInt (T : Int)) ∧ h.get? z = some { cls := .type "zip", dict := none, data := .fields #[own, .bool f, .bool false, .ref TI, .ref TO], slots := #[] }
section
variable {prog : Program} {w : World} {A : Around} {E : Value → Shared → Prop} {s : Shared}
/-- what is drawn from an iterator: ch: the cells that it writes -/
structure Drw (prog : Program) (w : World) (A : Around) (i : Addr) (ch : Addr → Prop) (S : Heap → Prop) (S' : Heap → Value → Prop) (R : Nat → Value → Prop) : Prop where
  mono : ∀ m n x, m ≤ n → R n x → R m x
  item : ∀ (s : Shared) (Q E : Value → Shared → Prop), S s.heap → (∀ h' x, S' h' x → R s.heap.objs.size x → (∀ c o, ¬ ch c → s.heap.get? c = some o → h'.get? c = some o) → s.heap.objs.size ≤ h'.objs.size → Q x { s with heap := h' }) → wpAny (model prog w) A (Builtin.SmallTypes.nextOf (.ref i)) Q E s
theorem alive (a : Addr) {Q : Option Obj → Shared → Prop} (h : Q (s.heap.get? a) s) : wpAny (model prog w) A (loadIfAlive a) Q E s := fun _ _ _ => h
/-- the owned tuple is free, or it is not -/
theorem free {z TI TO : Addr} {Q : Bool → Shared → Prop} (hz : ZAny s.heap z TI TO) (h1 : Q true s) (h2 : ∀ h', (IsZip s.heap z TI TO .none → False) → ZAny h' z TI TO → Heap.SameBut z s.heap h' → Q false { s with heap := h' }) : wpAny (model prog w) A (Builtin.SmallTypes.ownedTupleIsFree (.ref z)) Q E s := by
  obtain ⟨own, f, ho, hz⟩ := hz
  unfold Builtin.SmallTypes.ownedTupleIsFree
  rcases ho with rfl | ⟨T, rfl⟩
  · exact wpAny_bind (wpAny_field hz rfl (x := .none) rfl (wpAny_pure h1))
  · refine wpAny_bind (wpAny_field hz rfl (x := rawInt (T : Int)) rfl ?_)
    show wpAny _ _ (loadIfAlive ((T : Int).toNat) >>= _) _ _ _
    rw [Int.toNat_natCast]
    refine wpAny_bind (alive T ?_)
    cases s.heap.get? T with
    | none => exact wpAny_pure h1
    | some oT =>
      have nn : IsZip s.heap z TI TO .none → False := fun e => by
        have e := hz.symm.trans e
        simp [rawInt] at e
      simp only [Option.isNone_some, Bool.false_eq_true, if_false]
      refine wpAny_bind (wpAny_field hz rfl (x := .bool f) rfl ?_)
      cases f with
      | true =>
        rw [if_neg (show ¬ ((Value.bool true != Value.bool true) = true) from Bool.false_ne_true)]
        exact wpAny_pure (h2 s.heap nn ⟨_, _, .inr ⟨T, rfl⟩, hz⟩ (Heap.SameBut.refl _ _))
      | false =>
        rw [if_pos (show (Value.bool false != Value.bool true) = true from rfl)]
        exact wpAny_bind (wpAny_setField_rec hz (by simp) fun h₁ hz₁ hs₁ => wpAny_pure (h2 h₁ nn ⟨_, _, .inr ⟨T, rfl⟩, hz₁⟩ hs₁))
/-- how the cells lie -/
structure Ap (z TI TO i1 i2 : Addr) (ch1 ch2 : Addr → Prop) : Prop where
  TIz : TI ≠ z
  TOz : TO ≠ z
  z1 : ¬ ch1 z
  z2 : ¬ ch2 z
  o1 : ¬ ch1 TO
  o2 : ¬ ch2 TO
  i1' : ¬ ch1 TI
  TITO : TI ≠ TO
variable {z TI TO i1 i2 : Addr} {ch1 ch2 : Addr → Prop} {S1 S2 : Heap → Prop} {S1' S2' : Heap → Value → Prop} {R1 R2 : Nat → Value → Prop}
theorem same_keep {z : Addr} {h h' : Heap} (hs : Heap.SameBut z h h') : ∀ c o, c ≠ z → h.get? c = some o → h'.get? c = some o := fun c o n e => hs.extBut _ _ n e
theorem next_item {a b : Value} {Q : Value → Shared → Prop} (D : Ap z TI TO i1 i2 ch1 ch2) (D1 : Drw prog w A i1 ch1 S1 S1' R1) (D2 : Drw prog w A i2 ch2 S2 S2' R2)
    (fr0 : ∀ h h', S1 h → h.objs.size ≤ h'.objs.size → (∀ c o, c ≠ z → h.get? c = some o → h'.get? c = some o) → S1 h')
    (fr1 : ∀ h h' x, S1' h x → h.objs.size ≤ h'.objs.size → (∀ c o, c ≠ z → c ≠ TO → ¬ ch2 c → h.get? c = some o → h'.get? c = some o) → S1' h' x)
    (fr2 : ∀ h h', S2 h → h.objs.size ≤ h'.objs.size → (∀ c o, c ≠ z → c ≠ TO → ¬ ch1 c → h.get? c = some o → h'.get? c = some o) → S2 h')
    (fr3 : ∀ h h' x, S2' h x → h.objs.size ≤ h'.objs.size → (∀ c o, c ≠ z → c ≠ TO → h.get? c = some o → h'.get? c = some o) → S2' h' x)
    (hz : ZAny s.heap z TI TO) (hTI : IsPair s.heap TI (.ref i1) (.ref i2)) (hTO : IsPair s.heap TO a b) (st1 : S1 s.heap) (st2 : S2 s.heap)
    (hQ : ∀ h' T x y, (IsZip s.heap z TI TO .none → IsZip h' z TI TO (rawInt ((T : Nat) : Int))) → ZAny h' z TI TO → (∃ a b, IsPair h' TO a b) → S1' h' x → S2' h' y → R1 s.heap.objs.size x → R2 s.heap.objs.size y → IsPair h' T x y → s.heap.objs.size ≤ T → T < h'.objs.size → (T : Nat) + 1 = h'.objs.size → (∃ h5, S2' h5 y ∧ h5.objs.size = T) →
      (∀ c o, c ≠ z → c ≠ TO → ¬ ch1 c → ¬ ch2 c → s.heap.get? c = some o → h'.get? c = some o) → Q (.ref T) { s with heap := h' }) :
    wpAny (model prog w) A (Builtin.«zip.__next__» ⟨[.ref z], []⟩) (fun fin s' => ∃ v, fin = .done (.ret v) ∧ Q v s') E s := by
  obtain ⟨own, f, ho, hz0⟩ := id hz
  show wpAny _ _ (field (.ref z) 2 >>= _) _ _ _
  refine wpAny_bind (wpAny_field hz0 rfl (x := .bool false) rfl ?_)
  show wpAny _ _ (field (.ref z) 3 >>= _) _ _ _
  refine wpAny_bind (wpAny_field hz0 rfl (x := .ref TI) rfl ?_)
  refine wpAny_bind (wpAny_seqItems hTI rfl ?_)
  show wpAny _ _ (Builtin.SmallTypes.ownedTupleIsFree (.ref z) >>= _) _ _ _
  refine wpAny_bind (free hz ?_ fun h₁ nn hz₁ hs₁ => ?_)
  · -- the tuple is free
    simp only [if_true]
    refine wpAny_bind (wpAny_rule ?_)
    refine wpAny_bind (wpAny_field hz0 rfl (x := .ref TO) rfl ?_)
    refine wpAny_bind (wpAny_setField_rec hz0 (by simp) fun h₁ hz₁ hs₁ => ?_)
    refine wpAny_bind ?_
    simp only [List.zipIdx_cons, List.zipIdx_nil, List.forIn_cons, List.forIn_nil]
    refine wpAny_bind (wpAny_bind (wpAny_onRaise ?_))
    show wpAny _ _ (Builtin.SmallTypes.nextOf (.ref i1) >>= _) _ _ _
    have k1 := same_keep hs₁
    refine wpAny_bind (D1.item { s with heap := h₁ } _ _ (fr0 _ _ st1 (Nat.le_of_eq hs₁.1.symm) k1) fun h₂ x t1 r1 k2 z2 => wpAny_pure ?_)
    have hTO₂ : IsPair h₂ TO a b := k2 _ _ D.o1 (k1 _ _ D.TOz hTO)
    refine wpAny_bind (wpAny_seqItems hTO₂ rfl ?_)
    refine wpAny_bind (wpAny_updateSeq_pair hTO₂ fun h₃ hTO₃ hs₃ => ?_)
    replace hTO₃ : IsPair h₃ TO x b := hTO₃
    have k3 := same_keep hs₃
    refine wpAny_bind (wpAny_letGo (wpAny_pure ?_))
    refine wpAny_bind (wpAny_bind (wpAny_onRaise ?_))
    show wpAny _ _ (Builtin.SmallTypes.nextOf (.ref i2) >>= _) _ _ _
    refine wpAny_bind (D2.item { s with heap := h₃ } _ _ (fr2 _ _ st2 (by
      show s.heap.objs.size ≤ h₃.objs.size
      have e1 : h₁.objs.size = s.heap.objs.size := hs₁.1
      have e2 : h₁.objs.size ≤ h₂.objs.size := z2
      have e3 : h₃.objs.size = h₂.objs.size := hs₃.1
      omega) fun c o c1 c2 c3 e => k3 c o c2 (k2 c o c3 (k1 c o c1 e))) fun h₄ y t2 r2 k4 z4 => wpAny_pure ?_)
    have hTO₄ : IsPair h₄ TO x b := k4 _ _ D.o2 hTO₃
    refine wpAny_bind (wpAny_seqItems hTO₄ rfl ?_)
    refine wpAny_bind (wpAny_updateSeq_pair hTO₄ fun h₅ hTO₅ hs₅ => ?_)
    replace hTO₅ : IsPair h₅ TO x y := hTO₅
    have k5 := same_keep hs₅
    refine wpAny_bind (wpAny_letGo (wpAny_pure (wpAny_pure ?_)))
    refine wpAny_bind (wpAny_seqItems hTO₅ rfl ?_)
    refine wpAny_bind (wpAny_newTuple ?_)
    have hsz : s.heap.objs.size ≤ h₅.objs.size := by
      have e1 : h₁.objs.size = s.heap.objs.size := hs₁.1
      have e2 : h₁.objs.size ≤ h₂.objs.size := z2
      have e3 : h₃.objs.size = h₂.objs.size := hs₃.1
      have e4 : h₃.objs.size ≤ h₄.objs.size := z4
      have e5 : h₅.objs.size = h₄.objs.size := hs₅.1
      omega
    have hs3 : s.heap.objs.size ≤ h₃.objs.size := by
      have e1 : h₁.objs.size = s.heap.objs.size := hs₁.1
      have e2 : h₁.objs.size ≤ h₂.objs.size := z2
      have e3 : h₃.objs.size = h₂.objs.size := hs₃.1
      omega
    have hs1 : s.heap.objs.size ≤ h₁.objs.size := Nat.le_of_eq hs₁.1.symm
    have hz₅ := k5 _ _ D.TOz.symm (k4 _ _ D.z2 (k3 _ _ D.TOz.symm (k2 _ _ D.z1 hz₁)))
    have hk₅ : ∀ c o, c ≠ z → c ≠ TO → ¬ ch1 c → ¬ ch2 c → s.heap.get? c = some o → h₅.get? c = some o := fun c o c1 c2 c3 c4 e => k5 c o c2 (k4 c o c4 (k3 c o c2 (k2 c o c3 (k1 c o c1 e))))
    have t1' : S1' h₅ x := fr1 _ _ _ t1 (by
      have e3 : h₃.objs.size = h₂.objs.size := hs₃.1
      have e4 : h₃.objs.size ≤ h₄.objs.size := z4
      have e5 : h₅.objs.size = h₄.objs.size := hs₅.1
      omega) fun c o c1 c2 c3 e => k5 c o c2 (k4 c o c3 (k3 c o c2 e))
    have t2' : S2' h₅ y := fr3 _ _ _ t2 (Nat.le_of_eq hs₅.1.symm) fun c o c1 c2 e => k5 c o c2 e
    have hzlt : z < h₅.objs.size := Heap.lt_size hz₅
    show wpAny _ _ (Builtin.SmallTypes.ownedTupleHandOut (.ref z) (.ref h₅.objs.size) >>= _) _ _ _
    refine wpAny_bind ?_
    unfold Builtin.SmallTypes.ownedTupleHandOut
    have hz₆ := Heap.get?_push_of_some ({ cls := .type "tuple", data := .seq #[x, y] } : Obj) hz₅
    refine wpAny_bind (wpAny_setField_rec hz₆ (by simp) fun h₇ hz₇ hs₇ => ?_)
    refine wpAny_setField_rec hz₇ (by simp) fun h₈ hz₈ hs₈ => ?_
    have up : ∀ c o, c ≠ z → h₅.get? c = some o → h₈.get? c = some o := fun c o c1 e => hs₈.extBut _ _ c1 (hs₇.extBut _ _ c1 (Heap.get?_push_of_some _ e))
    have hT₈ : IsPair h₈ h₅.objs.size x y := hs₈.extBut _ _ (Nat.ne_of_gt hzlt) (hs₇.extBut _ _ (Nat.ne_of_gt hzlt) (Heap.get?_push_size _ rfl))
    have hz8 : h₈.objs.size = h₅.objs.size + 1 := by rw [hs₈.1, hs₇.1, Heap.size_push]
    refine wpAny_pure ⟨_, rfl, ?_⟩
    exact hQ h₈ h₅.objs.size x y (fun _ => hz₈) ⟨_, _, .inr ⟨_, rfl⟩, hz₈⟩ ⟨x, y, up _ _ D.TOz hTO₅⟩ (fr1 _ _ _ t1' (by rw [hz8]; exact Nat.le_succ _) fun c o c1 _ _ e => up c o c1 e) (fr3 _ _ _ t2' (by rw [hz8]; exact Nat.le_succ _) fun c o c1 _ e => up c o c1 e) (D1.mono _ _ _ hs1 r1) (D2.mono _ _ _ hs3 r2) hT₈ hsz (by rw [hz8]; exact Nat.lt_succ_self _) hz8.symm ⟨h₅, t2', rfl⟩ fun c o c1 c2 c3 c4 e => up c o c1 (hk₅ c o c1 c2 c3 c4 e)
  · -- it is out
    simp only [Bool.false_eq_true, if_false]
    refine wpAny_bind ?_
    rw [← Array.forIn_toList]
    simp only [List.forIn_cons, List.forIn_nil]
    refine wpAny_bind (wpAny_bind (wpAny_holding ?_))
    show wpAny _ _ (Builtin.SmallTypes.nextOf (.ref i1) >>= _) _ _ _
    have k1 := same_keep hs₁
    refine wpAny_bind (D1.item { s with heap := h₁ } _ _ (fr0 _ _ st1 (Nat.le_of_eq hs₁.1.symm) k1) fun h₂ x t1 r1 k2 z2 => wpAny_pure ?_)
    refine wpAny_pure ?_
    refine wpAny_bind (wpAny_bind (wpAny_holding ?_))
    show wpAny _ _ (Builtin.SmallTypes.nextOf (.ref i2) >>= _) _ _ _
    refine wpAny_bind (D2.item { s with heap := h₂ } _ _ (fr2 _ _ st2 (by
      show s.heap.objs.size ≤ h₂.objs.size
      have e1 : h₁.objs.size = s.heap.objs.size := hs₁.1
      have e2 : h₁.objs.size ≤ h₂.objs.size := z2
      omega) fun c o c1 c2 c3 e => k2 c o c3 (k1 c o c1 e)) fun h₃ y t2 r2 k3 z3 => wpAny_pure ?_)
    refine wpAny_pure (wpAny_pure ?_)
    show wpAny _ _ (newTuple [x, y] >>= _) _ _ _
    refine wpAny_bind (wpAny_newTuple ?_)
    have hsz : s.heap.objs.size ≤ h₃.objs.size := by
      have e1 : h₁.objs.size = s.heap.objs.size := hs₁.1
      have e2 : h₁.objs.size ≤ h₂.objs.size := z2
      have e4 : h₂.objs.size ≤ h₃.objs.size := z3
      omega
    have hs2 : s.heap.objs.size ≤ h₂.objs.size := by
      have e1 : h₁.objs.size = s.heap.objs.size := hs₁.1
      have e2 : h₁.objs.size ≤ h₂.objs.size := z2
      omega
    have hs1 : s.heap.objs.size ≤ h₁.objs.size := Nat.le_of_eq hs₁.1.symm
    obtain ⟨own₁, f₁, ho₁, hz₁⟩ := hz₁
    have hz₃ := k3 _ _ D.z2 (k2 _ _ D.z1 hz₁)
    have t1' : S1' h₃ x := fr1 _ _ _ t1 z3 fun c o c1 c2 c3 e => k3 c o c3 e
    have hp : IsPair (h₃.push { cls := .type "tuple", data := .seq #[x, y] }) h₃.objs.size x y := Heap.get?_push_size _ rfl
    have hz4 : (h₃.push { cls := .type "tuple", data := .seq #[x, y] }).objs.size = h₃.objs.size + 1 := Heap.size_push ..
    refine wpAny_pure ⟨_, rfl, ?_⟩
    exact hQ _ h₃.objs.size x y (fun e => (nn e).elim) ⟨_, _, ho₁, Heap.get?_push_of_some _ hz₃⟩ ⟨a, b, Heap.get?_push_of_some _ (k3 _ _ D.o2 (k2 _ _ D.o1 (k1 _ _ D.TOz hTO)))⟩ (fr1 _ _ _ t1' (by rw [hz4]; exact Nat.le_succ _) fun c o _ _ _ e => Heap.get?_push_of_some _ e) (fr3 _ _ _ t2 (by rw [hz4]; exact Nat.le_succ _) fun c o _ _ e => Heap.get?_push_of_some _ e) (D1.mono _ _ _ hs1 r1) (D2.mono _ _ _ hs2 r2) hp hsz (by rw [hz4]; exact Nat.lt_succ_self _) hz4.symm ⟨h₃, t2, rfl⟩
      fun c o c1 c2 c3 c4 e => Heap.get?_push_of_some _ (k3 c o c4 (k2 c o c3 (k1 c o c1 e)))
/-- a tuple's -/
theorem drw_tuple {i l : Addr} {k : Nat} {xs : Array Value} {x : Value} (hx : xs[k]? = some x) (hne : l ≠ i) :
    Drw prog w A i (· = i) (fun h => h.IsTupleIter i l k ∧ h.IsTuple l xs) (fun h v => v = x ∧ h.IsTupleIter i l (k + 1) ∧ h.IsTuple l xs) (fun _ _ => True) where
  mono := fun _ _ _ _ _ => trivial
  item := fun s Q E st hQ => RZ.nextOf_tuple_item st.1 st.2 hx fun h' hit hs => hQ h' x ⟨rfl, hit, st.2.extBut hs.extBut hne⟩ trivial (fun c o n e => hs.extBut _ _ n e) (Nat.le_of_eq hs.1.symm)
end
/-- the inner zip: its cells -/
structure Cells where
  z : Addr
  TI : Addr
  TO : Addr
  i1 : Addr
  i2 : Addr
  l1 : Addr
  l2 : Addr
def Cells.ch (c : Cells) (a : Addr) : Prop := a = c.z ∨ a = c.TO ∨ a = c.i1 ∨ a = c.i2
structure Cells.Ap (c : Cells) : Prop where
  d : ZipApart c.z c.TI c.TO c.i1 c.i2 c.l1 c.l2
/-- how it stands -/
structure Cells.St (c : Cells) (xs ys : Array Value) (k : Nat) (h : Heap) : Prop where
  z : ZAny h c.z c.TI c.TO
  ti : IsPair h c.TI (.ref c.i1) (.ref c.i2)
  to : ∃ a b, IsPair h c.TO a b
  i1 : h.IsTupleIter c.i1 c.l1 k
  i2 : h.IsTupleIter c.i2 c.l2 k
  l1 : h.IsTuple c.l1 xs
  l2 : h.IsTuple c.l2 ys
theorem ZAny.keep {h h' : Heap} {z TI TO : Addr} (hz : ZAny h z TI TO) (k : ∀ o, h.get? z = some o → h'.get? z = some o) : ZAny h' z TI TO := by
  obtain ⟨own, f, ho, e⟩ := hz
  exact ⟨own, f, ho, k _ e⟩
theorem Cells.St.keep {c : Cells} {xs ys : Array Value} {k : Nat} {h h' : Heap} (st : c.St xs ys k h) (kp : ∀ a o, a = c.z ∨ a = c.TI ∨ a = c.TO ∨ a = c.i1 ∨ a = c.i2 ∨ a = c.l1 ∨ a = c.l2 → h.get? a = some o → h'.get? a = some o) : c.St xs ys k h' := by
  obtain ⟨a, b, ht⟩ := st.to
  exact ⟨st.z.keep fun o e => kp _ o (.inl rfl) e, kp _ _ (.inr (.inl rfl)) st.ti, ⟨a, b, kp _ _ (.inr (.inr (.inl rfl))) ht⟩, st.i1.at fun o e => kp _ o (.inr (.inr (.inr (.inl rfl)))) e, st.i2.at fun o e => kp _ o (.inr (.inr (.inr (.inr (.inl rfl))))) e,
    st.l1.at fun o e => kp _ o (.inr (.inr (.inr (.inr (.inr (.inl rfl)))))) e, st.l2.at fun o e => kp _ o (.inr (.inr (.inr (.inr (.inr (.inr rfl)))))) e⟩
section
variable {prog : Program} {w : World} {A : Around} {E : Value → Shared → Prop} {s : Shared}
theorem drw_zip {c : Cells} (ap : c.Ap) {xs ys : Array Value} {k : Nat} {x y : Value} (hx : xs[k]? = some x) (hy : ys[k]? = some y) :
    Drw prog w A c.z c.ch (c.St xs ys k) (fun h v => ∃ T : Addr, v = .ref T ∧ IsPair h T x y ∧ T ≠ c.z ∧ T ≠ c.TO ∧ T ≠ c.i1 ∧ T ≠ c.i2 ∧ c.St xs ys (k + 1) h) (fun n v => ∃ T : Addr, v = .ref T ∧ n ≤ T) where
  mono := fun m n v h ⟨T, e, z⟩ => ⟨T, e, Nat.le_trans h z⟩
  item := fun s Q E st hQ => by
    have D := ap.d
    obtain ⟨a, b, hto⟩ := st.to
    obtain ⟨own, f, ho, hz0⟩ := id st.z
    have hT : s.TypeIs (.ref c.z) "zip" := ⟨_, hz0, rfl⟩
    unfold Builtin.SmallTypes.nextOf
    have ap1 : NZ.Ap c.z c.TI c.TO c.i1 c.i2 (· = c.i1) (· = c.i2) := ⟨D.TIz, D.TOz, fun e => D.i1z e.symm, fun e => D.i2z e.symm, D.TOi1, D.TOi2, D.TIi1, D.TITO⟩
    have key := next_item (prog := prog) (w := w) (A := A.in1) (E := E) (s := s) (S1 := fun h => h.IsTupleIter c.i1 c.l1 k ∧ h.IsTuple c.l1 xs) (S2 := fun h => h.IsTupleIter c.i2 c.l2 k ∧ h.IsTuple c.l2 ys)
      (Q := fun v s' => ∃ T : Addr, v = .ref T ∧ Q (.ref T) s') ap1 (drw_tuple hx D.l1i1) (drw_tuple hy D.l2i2)
      (fun h h' st _ kp => ⟨st.1.at fun o e => kp _ o D.i1z e, st.2.at fun o e => kp _ o D.l1z e⟩)
      (fun h h' v st _ kp => ⟨st.1, st.2.1.at fun o e => kp _ o D.i1z D.TOi1.symm D.i12 e, st.2.2.at fun o e => kp _ o D.l1z D.l1TO D.l1i2 e⟩)
      (fun h h' st _ kp => ⟨st.1.at fun o e => kp _ o D.i2z D.TOi2.symm D.i12.symm e, st.2.at fun o e => kp _ o D.l2z D.l2TO D.l2i1 e⟩)
      (fun h h' v st _ kp => ⟨st.1, st.2.1.at fun o e => kp _ o D.i2z D.TOi2.symm e, st.2.2.at fun o e => kp _ o D.l2z D.l2TO e⟩)
      st.z st.ti hto ⟨st.i1, st.l1⟩ ⟨st.i2, st.l2⟩ fun h' T x' y' _ a1 a2 a3 a4 _ _ a5 a6 a7 a8 _ a9 => by
        obtain ⟨rfl, b1, b2⟩ := a3
        obtain ⟨rfl, b3, b4⟩ := a4
        have ti' : IsPair h' c.TI (.ref c.i1) (.ref c.i2) := a9 _ _ D.TIz D.TITO D.TIi1 D.TIi2 st.ti
        have lt : ∀ a o, s.heap.get? a = some o → T ≠ a := fun a o e z => Nat.lt_irrefl _ (Nat.lt_of_lt_of_le (Heap.lt_size e) (z ▸ a6))
        obtain ⟨o1, e1, _⟩ := id st.i1
        obtain ⟨o2, e2, _⟩ := id st.i2
        refine ⟨T, rfl, hQ h' _ ⟨T, rfl, a5, lt _ _ hz0, lt _ _ hto, lt _ _ e1, lt _ _ e2, ⟨a1, ti', a2, b1, b3, b2, b4⟩⟩ ⟨T, rfl, a6⟩ (fun a o n e => a9 a o (fun z => n (.inl z)) (fun z => n (.inr (.inl z))) (fun z => n (.inr (.inr (.inl z)))) (fun z => n (.inr (.inr (.inr z)))) e) (by rw [← a8]; exact Nat.le_succ_of_le a6)⟩
    refine wpAny_bind (wpAny_callSpecial?_slot (name := Str.ofString "__next__") hT F.slot_zip_next (wpAny_call_entry F.slot_zip_next hT F.entry_zip_next ?_ (F.args_zip_next_1 _)))
    exact wpAny_mono key (fun fin s' ⟨v, e, T, e2, q⟩ => ⟨v, e, wpAny_pure (by rw [e2]; exact q)⟩) fun _ _ z => z
/-! the outer zip: a tuple and the inner zip -/
structure Out where
  z : Addr
  TI : Addr
  TO : Addr
  i : Addr
  l : Addr
  c : Cells
structure Out.Ap (o : Out) : Prop where
  ap : o.c.Ap
  TIz : o.TI ≠ o.z
  TOz : o.TO ≠ o.z
  TITO : o.TI ≠ o.TO
  iz : o.i ≠ o.z
  TIi : o.TI ≠ o.i
  TOi : o.TO ≠ o.i
  li : o.l ≠ o.i
  lz : o.l ≠ o.z
  lTO : o.l ≠ o.TO
  lc : ∀ a, o.c.ch a → o.l ≠ a
  cz : ∀ a, (a = o.c.z ∨ a = o.c.TI ∨ a = o.c.TO ∨ a = o.c.i1 ∨ a = o.c.i2 ∨ a = o.c.l1 ∨ a = o.c.l2) → a ≠ o.z ∧ a ≠ o.TI ∧ a ≠ o.TO ∧ a ≠ o.i
structure Out.St (o : Out) (zs xs ys : Array Value) (k : Nat) (h : Heap) : Prop where
  z : IsZip h o.z o.TI o.TO .none
  ti : IsPair h o.TI (.ref o.i) (.ref o.c.z)
  to : ∃ a b, IsPair h o.TO a b
  i : h.IsTupleIter o.i o.l k
  l : h.IsTuple o.l zs
  c : o.c.St xs ys k h
theorem ch_cell {c : Cells} {a : Addr} (h : c.ch a) : a = c.z ∨ a = c.TI ∨ a = c.TO ∨ a = c.i1 ∨ a = c.i2 ∨ a = c.l1 ∨ a = c.l2 := by
  rcases h with h | h | h | h
  · exact .inl h
  · exact .inr (.inr (.inl h))
  · exact .inr (.inr (.inr (.inl h)))
  · exact .inr (.inr (.inr (.inr (.inl h))))
theorem drw_in {o : Out} (ap : o.Ap) {xs ys : Array Value} {k N : Nat} {x y : Value} (hx : xs[k]? = some x) (hy : ys[k]? = some y) (hzl : o.z < N) (htl : o.TO < N) :
    Drw prog w A o.c.z o.c.ch (fun h => (o.c.St xs ys k h ∧ IsPair h o.TI (.ref o.i) (.ref o.c.z)) ∧ N ≤ h.objs.size) (fun h v => (∃ T : Addr, v = .ref T ∧ IsPair h T x y ∧ T ≠ o.z ∧ T ≠ o.TO ∧ o.c.St xs ys (k + 1) h) ∧ IsPair h o.TI (.ref o.i) (.ref o.c.z)) (fun n v => ∃ T : Addr, v = .ref T ∧ n ≤ T) where
  mono := fun m n v h ⟨T, e, z⟩ => ⟨T, e, Nat.le_trans h z⟩
  item := fun s Q E st hQ => (drw_zip ap.ap hx hy).item s Q E st.1.1 fun h' v ⟨T, e1, e2, _, _, _, _, e3⟩ r kp z => by
    obtain ⟨T', e4, r⟩ := r
    cases e1
    cases e4
    refine hQ h' _ ⟨⟨T, rfl, e2, fun q => ?_, fun q => ?_, e3⟩, kp _ _ (fun q => (ap.cz _ (ch_cell q)).2.1 rfl) st.1.2⟩ ⟨T, rfl, r⟩ kp z
    · exact Nat.lt_irrefl _ (Nat.lt_of_lt_of_le hzl (Nat.le_trans st.2 (q ▸ r)))
    · exact Nat.lt_irrefl _ (Nat.lt_of_lt_of_le htl (Nat.le_trans st.2 (q ▸ r)))
theorem out_item {o : Out} (ap : o.Ap) {zs xs ys : Array Value} {k : Nat} {v x y : Value} {Q : Option Value → Shared → Prop} (hv : zs[k]? = some v) (hx : xs[k]? = some x) (hy : ys[k]? = some y) (st : o.St zs xs ys k s.heap)
    (hQ : ∀ h' (T T2 : Addr), IsZip h' o.z o.TI o.TO (rawInt ((T : Nat) : Int)) → (∃ a b, IsPair h' o.TO a b) → IsPair h' o.TI (.ref o.i) (.ref o.c.z) → h'.IsTupleIter o.i o.l (k + 1) → h'.IsTuple o.l zs → o.c.St xs ys (k + 1) h' → IsPair h' T2 x y → IsPair h' T v (.ref T2) → s.heap.objs.size ≤ T2 → s.heap.objs.size ≤ T → T2 ≠ T →
      (∀ a ob, a ≠ o.z → a ≠ o.TO → a ≠ o.i → ¬ o.c.ch a → s.heap.get? a = some ob → h'.get? a = some ob) → Q (some (.ref T)) { s with heap := h' }) :
    wpAny (model prog w) A (pyNext (.ref o.z)) Q E s := by
  obtain ⟨a, b, hto⟩ := st.to
  have hzl : o.z < s.heap.objs.size := Heap.lt_size st.z
  have htl : o.TO < s.heap.objs.size := Heap.lt_size hto
  have hT : s.TypeIs (.ref o.z) "zip" := ⟨_, st.z, rfl⟩
  have cc := fun {a} h => ap.cz a (ch_cell h)
  have ap1 : NZ.Ap o.z o.TI o.TO o.i o.c.z (· = o.i) o.c.ch := ⟨ap.TIz, ap.TOz, fun e => ap.iz e.symm, fun e => (cc e).1 rfl, ap.TOi, fun e => (cc e).2.2.1 rfl, ap.TIi, ap.TITO⟩
  have kc : ∀ {h h' : Heap} {m : Nat}, o.c.St xs ys m h → (∀ a ob, a ≠ o.z → a ≠ o.TO → a ≠ o.i → h.get? a = some ob → h'.get? a = some ob) → o.c.St xs ys m h' := fun st kp => st.keep fun a ob hm e => kp a ob (ap.cz a hm).1 (ap.cz a hm).2.2.1 (ap.cz a hm).2.2.2 e
  have key := fun E' : Value → Shared → Prop => next_item (prog := prog) (w := w) (A := A.in1) (E := E') (s := s) (S1 := fun h => h.IsTupleIter o.i o.l k ∧ h.IsTuple o.l zs) (S2 := fun h => (o.c.St xs ys k h ∧ IsPair h o.TI (.ref o.i) (.ref o.c.z)) ∧ s.heap.objs.size ≤ h.objs.size)
      (S2' := fun h v => (∃ T : Addr, v = .ref T ∧ IsPair h T x y ∧ T ≠ o.z ∧ T ≠ o.TO ∧ o.c.St xs ys (k + 1) h) ∧ IsPair h o.TI (.ref o.i) (.ref o.c.z)) (R2 := fun n v => ∃ T : Addr, v = .ref T ∧ n ≤ T)
      (Q := fun v s' => ∃ T : Addr, v = .ref T ∧ Q (some (.ref T)) s') ap1 (drw_tuple hv ap.li) (drw_in ap hx hy hzl htl)
      (fun h h' st _ kp => ⟨st.1.at fun ob e => kp _ ob ap.iz e, st.2.at fun ob e => kp _ ob ap.lz e⟩)
      (fun h h' v st _ kp => ⟨st.1, st.2.1.at fun ob e => kp _ ob ap.iz ap.TOi.symm (fun z => (cc z).2.2.2 rfl) e, st.2.2.at fun ob e => kp _ ob ap.lz ap.lTO (fun z => ap.lc _ z rfl) e⟩)
      (fun h h' st z kp => ⟨⟨kc st.1.1 fun a ob n1 n2 n3 e => kp a ob n1 n2 n3 e, kp _ _ ap.TIz ap.TITO ap.TIi st.1.2⟩, Nat.le_trans st.2 z⟩)
      (fun h h' v ⟨⟨T, e1, e2, e3, e4, st⟩, ti⟩ _ kp => ⟨⟨T, e1, kp _ _ e3 e4 e2, e3, e4, kc st fun a ob n1 n2 n3 e => kp a ob n1 n2 e⟩, kp _ _ ap.TIz ap.TITO ti⟩)
      ⟨_, _, .inl rfl, st.z⟩ st.ti hto ⟨st.i, st.l⟩ ⟨⟨st.c, st.ti⟩, Nat.le_refl _⟩ fun h' T x' y' a0 a1 a2 a3 a4 _ r2 a5 a6 a7 a8 a10 a9 => by
        obtain ⟨rfl, b1, b2⟩ := a3
        obtain ⟨⟨T2, rfl, c1, c2, c3, c4⟩, c5⟩ := a4
        obtain ⟨T3, e3, r3⟩ := r2
        cases e3
        refine ⟨T, rfl, hQ h' T T2 (a0 st.z) a2 c5 b1 b2 c4 c1 a5 r3 a6 (fun z => ?_) (fun a ob n1 n2 n3 n4 e => a9 a ob n1 n2 n3 n4 e)⟩
        obtain ⟨h5, ⟨⟨T4, e4, g4, _⟩, _⟩, z5⟩ := a10
        cases e4
        exact Nat.lt_irrefl _ (z5 ▸ z ▸ Heap.lt_size g4)
  unfold pyNext
  exact wpAny_bind (wpAny_attempt (wpAny_callSpecial?_slot (name := Str.ofString "__next__") hT F.slot_zip_next
    (wpAny_call_entry F.slot_zip_next hT F.entry_zip_next (wpAny_mono (key _) (fun fin s' ⟨v, e, T, e2, q⟩ => ⟨v, e, wpAny_pure (by rw [e2]; exact q)⟩) fun _ _ z => z) (F.args_zip_next_1 _))))
end
end T.NZ
end

section
set_option Elab.async false
set_option linter.all false
set_option maxRecDepth 100000
set_option maxHeartbeats 2000000
namespace T.NZ
open PySem PySem.Spec PyProof.Rows L2
section
variable {X : Cx} {pins : List (Addr × Obj)} {σ : L2.St} {H : Hp} {s : Shared} {h' : Heap}
theorem turnedNew2 {t' : Nat} {ch : List Addr} {T T2 : Addr} {ob ob2 : HO} (I : L2.Inv X pins σ H s) (k : ∀ b o, b ∉ ch → s.heap.get? b = some o → h'.get? b = some o) (hf : ∀ b ∈ ch, FpOk X pins H b) (hT : s.heap.objs.size ≤ T) (hT2 : s.heap.objs.size ≤ T2) (ne : T2 ≠ T)
    (new2 : ObjOk X.prog X.w (upd (upd H T2 ob2) T ob) h' T2 ob2) (new : ObjOk X.prog X.w (upd (upd H T2 ob2) T ob) h' T ob) : L2.Inv X pins σ (upd (upd H T2 ob2) T ob) { s with heap := h', toks := t' } := by
  have hn : H T = none := I.hok.fresh hT
  have hn2 : H T2 = none := I.hok.fresh hT2
  have up : ∀ b u, H b = some u → upd (upd H T2 ob2) T ob b = some u := fun b u e => by rw [upd_ne (ne_of_none e hn), upd_ne (ne_of_none e hn2)]; exact e
  have nit : ∀ b u, H b = some u → b ∉ ch := fun b u e z => by
    have q := (hf b z).1
    rw [q] at e; cases e
  refine I.step (g' := s.gens) (d' := s.drawn) (ch := ch) (fun b hb => ⟨(hf b hb).2.2.2.1, (hf b hb).2.1, (hf b hb).2.2.2.2.1, (hf b hb).2.2.2.2.2⟩) (fun b o _ _ hc e _ => k b o hc e) (fun b o _ _ hc e _ => ⟨o.slots, k b o hc e⟩)
    (fun b o _ e n => ?_) (fun b o hc e => ⟨o, k b o hc e⟩) (fun b xs e => up _ _ e) (fun b o u e => up _ _ e) (fun b ps e => ⟨#[], ?_⟩) (fun m hm => ?_) (fun b u e => ?_) I.bare
  · rw [upd_ne (Nat.ne_of_lt (Nat.lt_of_lt_of_le (Heap.lt_size e) hT)), upd_ne (Nat.ne_of_lt (Nat.lt_of_lt_of_le (Heap.lt_size e) hT2))]; exact n
  · rw [up _ _ e]; simp
  · obtain ⟨o, es, ep, ho, r⟩ := hm
    exact ⟨o, es, ep, k _ o (fun z => (hf _ z).2.1 rfl) ho, r⟩
  · by_cases hb : b = T
    · subst hb
      rw [upd_same] at e
      cases e
      exact new
    · rw [upd_ne hb] at e
      by_cases hb2 : b = T2
      · subst hb2
        rw [upd_same] at e
        cases e
        exact new2
      · rw [upd_ne hb2] at e
        refine (I.hok b u e).stay (fun c v hc q => k c v ?_ q) (fun c q => up _ _ q) fun c xs q => up _ _ q
        rcases hc with z | z
        · rw [z]; exact nit b u e
        · exact nit c _ z
end
section
variable {prog : Program} {w : World} {A : Around} {E : Value → Shared → Prop} {s : Shared}
theorem out_end {o : Out} (hh : A.handled = none) (ap : o.Ap) {zs : Array Value} {k : Nat} {Q : Option Value → Shared → Prop} (hv : zs[k]? = none) (hz : IsZip s.heap o.z o.TI o.TO .none) (hti : IsPair s.heap o.TI (.ref o.i) (.ref o.c.z)) {a b : Value} (hto : IsPair s.heap o.TO a b) (hi : s.heap.IsTupleIter o.i o.l k) (hl : s.heap.IsTuple o.l zs)
    (hQ : ∀ h', (∀ a ob, a ≠ o.z → a ≠ o.i → s.heap.get? a = some ob → h'.get? a = some ob) → Q none { s with heap := h' }) :
    wpAny (model prog w) A (pyNext (.ref o.z)) Q E s := by
  have hT : s.TypeIs (.ref o.z) "zip" := ⟨_, hz, rfl⟩
  unfold pyNext
  refine wpAny_bind (wpAny_attempt (wpAny_callSpecial?_slot (name := Str.ofString "__next__") hT F.slot_zip_next
    (wpAny_call_entry F.slot_zip_next hT F.entry_zip_next ?_ (F.args_zip_next_1 _))))
  show wpAny _ _ (field (.ref o.z) 2 >>= _) _ _ _
  refine wpAny_bind (wpAny_field hz rfl (x := .bool false) rfl ?_)
  show wpAny _ _ (field (.ref o.z) 3 >>= _) _ _ _
  refine wpAny_bind (wpAny_field hz rfl (x := .ref o.TI) rfl ?_)
  refine wpAny_bind (wpAny_seqItems hti rfl ?_)
  show wpAny _ _ (Builtin.SmallTypes.ownedTupleIsFree (.ref o.z) >>= _) _ _ _
  refine wpAny_bind ?_
  unfold Builtin.SmallTypes.ownedTupleIsFree
  refine wpAny_bind (wpAny_field hz rfl (x := .none) rfl (wpAny_pure ?_))
  simp only [if_true]
  refine wpAny_bind (wpAny_rule ?_)
  refine wpAny_bind (wpAny_field hz rfl (x := .ref o.TO) rfl ?_)
  refine wpAny_bind (wpAny_setField_rec hz (by simp) fun h₁ hz₁ hs₁ => ?_)
  replace hz₁ : IsZip h₁ o.z o.TI o.TO .ellipsis := hz₁
  refine wpAny_bind ?_
  simp only [List.zipIdx_cons, List.zipIdx_nil, List.forIn_cons, List.forIn_nil]
  refine wpAny_bind (wpAny_bind (wpAny_onRaise ?_))
  show wpAny _ _ (Builtin.SmallTypes.nextOf (.ref o.i) >>= _) _ _ _
  refine wpAny_bind (RZ.nextOf_tuple_end hh (hi.extBut hs₁.extBut ap.iz) (hl.extBut hs₁.extBut ap.lz) hv fun h₂ e hs₂ he => ?_)
  obtain ⟨oe, hoe, hce⟩ := he
  have hz₂ : IsZip h₂ o.z o.TI o.TO .ellipsis := hs₂ _ _ ap.iz.symm hz₁
  have hez : e ≠ o.z := fun x => by subst x; rw [hz₂] at hoe; cases hoe; simp at hce
  refine wpAny_setField_rec hz₂ (by simp) fun h₃ _ hs₃ => ?_
  refine wpAny_bind (wpAny_isInstance (T := "StopIteration") (b := true) ⟨oe, hs₃.extBut _ _ hez hoe, hce⟩ isSubtype_stop ?_)
  exact wpAny_pure (hQ h₃ fun a ob n1 n2 x => hs₃.extBut _ _ n1 (hs₂ _ _ n2 (hs₁.extBut _ _ n1 x)))
abbrev nH1 (h : Heap) (l : Addr) : Heap := h.push { cls := .type "tuple_iterator", data := .fields #[.ref l, .int 0 0] }
abbrev nH2 (h : Heap) (l z2 : Addr) : Heap := (nH1 h l).push { cls := .type "tuple", data := .seq #[.ref h.objs.size, .ref z2] }
abbrev nH3 (h : Heap) (l z2 : Addr) : Heap := (nH2 h l z2).push { cls := .type "tuple", data := .seq #[.none, .none] }
abbrev nH4 (h : Heap) (l z2 : Addr) : Heap := (nH3 h l z2).push { cls := .type "zip", data := .fields #[.none, .bool false, .bool false, .ref (nH1 h l).objs.size, .ref (nH2 h l z2).objs.size] }
theorem meets_new (l z2 TI2 TO2 : Addr) (xs : Array Value) :
    Meets (Builtin.«zip.__new__» ⟨[.type "zip", .ref l, .ref z2], []⟩) (fun _ R s => s.heap.IsTuple l xs ∧ IsZip s.heap z2 TI2 TO2 .none ∧
      R (.ok (.ret (.ref (nH3 s.heap l z2).objs.size))) { s with heap := nH4 s.heap l z2 }) :=
  .of_wp fun prog w A R s h => by
    obtain ⟨hp, g, d, tk, os⟩ := s; obtain ⟨hl1, hz, h⟩ := h
    have hsub := sub_zip
    have hL1 : Heap.IsTuple (Shared.heap ⟨hp, g, d, tk, os⟩) l xs := hl1
    have hZ2 : IsZip (Shared.heap ⟨hp.push { cls := .type "tuple_iterator", data := .fields #[.ref l, .int 0 0] }, g, d, tk, os⟩) z2 TI2 TO2 .none := Heap.get?_push_of_some _ hz
    wp_walk using wpAny_pyIter_tuple hL1, wpAny_pyIter_zip hZ2
    exact ⟨_, rfl, h⟩
theorem call_new {l z2 TI2 TO2 : Addr} {xs : Array Value} {Q : Value → Shared → Prop} (hl : s.heap.IsTuple l xs) (hz : IsZip s.heap z2 TI2 TO2 .none)
    (h : ∀ h', IsZip h' (s.heap.objs.size + 3) (s.heap.objs.size + 1) (s.heap.objs.size + 2) .none → IsPair h' (s.heap.objs.size + 1) (.ref s.heap.objs.size) (.ref z2) →
      IsPair h' (s.heap.objs.size + 2) .none .none → h'.IsTupleIter s.heap.objs.size l 0 → h'.objs.size = s.heap.objs.size + 4 →
      (∀ c o, s.heap.get? c = some o → h'.get? c = some o) → Q (.ref (s.heap.objs.size + 3)) { s with heap := h' }) :
    wpAny (model prog w) A (call (.type "zip") [.ref l, .ref z2]) Q E s := by
  refine callType_new F.called_zip (by decide) (F.typeCall_zip_2 _ _) (F.newCall_zip_2 _ _) (fun obj => F.args_object_init_3 obj _ _) F.entry_zip_new
    (meets_new l z2 TI2 TO2 xs) ⟨hl, hz, ?_⟩
  have z1 : (nH1 s.heap l).objs.size = s.heap.objs.size + 1 := Heap.size_push ..
  have z2' : (nH2 s.heap l z2).objs.size = s.heap.objs.size + 2 := by rw [Heap.size_push, z1]
  have z3 : (nH3 s.heap l z2).objs.size = s.heap.objs.size + 3 := by rw [Heap.size_push, z2']
  have z4 : (nH4 s.heap l z2).objs.size = s.heap.objs.size + 4 := by rw [Heap.size_push, z3]
  have g4 : (nH4 s.heap l z2).get? (nH3 s.heap l z2).objs.size = some _ := Heap.get?_push_size _ rfl
  have g3 : (nH4 s.heap l z2).get? (nH2 s.heap l z2).objs.size = some _ := Heap.get?_push_of_some _ (Heap.get?_push_size _ rfl)
  have g2 : (nH4 s.heap l z2).get? (nH1 s.heap l).objs.size = some _ := Heap.get?_push_of_some _ (Heap.get?_push_of_some _ (Heap.get?_push_size _ rfl))
  have g1 : (nH4 s.heap l z2).get? s.heap.objs.size = some _ := Heap.get?_push_of_some _ (Heap.get?_push_of_some _ (Heap.get?_push_of_some _ (Heap.get?_push_size _ rfl)))
  show _ ∧ _
  rw [z1, z2', z3] at g4
  rw [z1] at g2
  rw [z2'] at g3
  rw [z3]
  exact ⟨⟨_, g4, rfl⟩, h _ g4 g2 g3 ⟨_, g1, rfl, rfl⟩ z4 fun c o x => Heap.get?_push_of_some _ (Heap.get?_push_of_some _ (Heap.get?_push_of_some _ (Heap.get?_push_of_some _ x)))⟩
end
end T.NZ
end

section
set_option Elab.async false
set_option linter.all false
set_option maxRecDepth 100000
set_option maxHeartbeats 2000000
namespace T.NZ
open PySem PySem.Spec PyProof.Rows L2
def ItzN (K : PySem.W.Frag) (a b c : Addr) : It :=
  ⟨fun i H => ∃ (us xs ys : List V) (u x y : V), SqT K H a us ∧ SqT K H b xs ∧ SqT K H c ys ∧ us[i]? = some u ∧ xs[i]? = some x ∧ ys[i]? = some y,
    fun i H v H' => ∃ T T2 u x y, v = .ref T ∧ H T = none ∧ H T2 = none ∧ T2 ≠ T ∧ H' = upd (upd H T2 (.tup [x, y])) T (.tup [u, .ref T2]) ∧ (∀ us, SqT K H a us → us[i]? = some u) ∧ (∀ xs, SqT K H b xs → xs[i]? = some x) ∧ ∀ ys, SqT K H c ys → ys[i]? = some y,
    fun i H => ∃ us : List V, SqT K H a us ∧ us.length ≤ i⟩
structure Out.Tn (o : Out) (j : Nat) (h : Heap) : Prop where
  z : IsZip h o.z o.TI o.TO .none
  ti : IsPair h o.TI (.ref o.i) (.ref o.c.z)
  to : ∃ a b, IsPair h o.TO a b
  i : h.IsTupleIter o.i o.l j
  cz : ZAny h o.c.z o.c.TI o.c.TO
  cti : IsPair h o.c.TI (.ref o.c.i1) (.ref o.c.i2)
  cto : ∃ a b, IsPair h o.c.TO a b
  i1 : h.IsTupleIter o.c.i1 o.c.l1 j
  i2 : h.IsTupleIter o.c.i2 o.c.l2 j
def Out.fp (o : Out) : List Addr := [o.z, o.TI, o.TO, o.i, o.c.z, o.c.TI, o.c.TO, o.c.i1, o.c.i2]
theorem Out.Tn.obj {o : Out} {i : Nat} {h : Heap} (t : o.Tn i h) : ∀ b ∈ o.fp, ∃ ob, h.get? b = some ob ∧ ∀ v, ob.data ≠ .cell v := by
  intro b hb
  obtain ⟨_, _, hto⟩ := t.to
  obtain ⟨_, _, hcto⟩ := t.cto
  obtain ⟨o0, e0, _, d0⟩ := t.i
  obtain ⟨o1, e1, _, d1⟩ := t.i1
  obtain ⟨o2, e2, _, d2⟩ := t.i2
  obtain ⟨own, f, _, hz⟩ := t.cz
  have e' : b = o.z ∨ b = o.TI ∨ b = o.TO ∨ b = o.i ∨ b = o.c.z ∨ b = o.c.TI ∨ b = o.c.TO ∨ b = o.c.i1 ∨ b = o.c.i2 := by simpa [Out.fp] using hb
  rcases e' with q | q | q | q | q | q | q | q | q <;> rw [q]
  · exact ⟨_, t.z, fun v q => nomatch q⟩
  · exact ⟨_, t.ti, fun v q => nomatch q⟩
  · exact ⟨_, hto, fun v q => nomatch q⟩
  · exact ⟨o0, e0, fun v q => by rw [d0] at q; cases q⟩
  · exact ⟨_, hz, fun v q => nomatch q⟩
  · exact ⟨_, t.cti, fun v q => nomatch q⟩
  · exact ⟨_, hcto, fun v q => nomatch q⟩
  · exact ⟨o1, e1, fun v q => by rw [d1] at q; cases q⟩
  · exact ⟨o2, e2, fun v q => by rw [d2] at q; cases q⟩
theorem Out.Tn.keep {o : Out} {i : Nat} {h h' : Heap} (t : o.Tn i h) (k : ∀ b ∈ o.fp, ∀ ob, h.get? b = some ob → h'.get? b = some ob) : o.Tn i h' := by
  obtain ⟨a, b, hto⟩ := t.to
  obtain ⟨a2, b2, hcto⟩ := t.cto
  exact ⟨k _ (by simp [Out.fp]) _ t.z, k _ (by simp [Out.fp]) _ t.ti, ⟨a, b, k _ (by simp [Out.fp]) _ hto⟩, t.i.at fun ob e => k _ (by simp [Out.fp]) ob e, t.cz.keep fun ob e => k _ (by simp [Out.fp]) ob e, k _ (by simp [Out.fp]) _ t.cti, ⟨a2, b2, k _ (by simp [Out.fp]) _ hcto⟩,
    t.i1.at fun ob e => k _ (by simp [Out.fp]) ob e, t.i2.at fun ob e => k _ (by simp [Out.fp]) ob e⟩
theorem turn_zipN {P : Program} {w : World} {K : PySem.W.Frag} {elts : List Expr} {kk : Nat} {tpos : Pos} {o : Out} (ap : o.Ap) :
    Turn P w K (.Tuple elts kk tpos) (ItzN K o.l o.c.l1 o.c.l2) o.fp o.z o.Tn where
  mem := by simp [Out.fp]
  obj := fun i h t => t.obj
  keep := fun i h h' t k => t.keep k
  item := by
    intro X hP hw hK hc i pins s σ H E I hf t hg
    subst hP hw hK
    obtain ⟨us, xs, ys, u, x, y, hqu, hqx, hqy, hu, hx, hy⟩ := hg
    obtain ⟨its0, rv0, p0, _⟩ := I.tuple hqu
    obtain ⟨its, rv, p, _⟩ := I.tuple hqx
    obtain ⟨its2, rv2, p2, _⟩ := I.tuple hqy
    obtain ⟨v0, hv0, ru0⟩ := rv0.get hu
    obtain ⟨v, hv, ru⟩ := rv.get hx
    obtain ⟨v2, hv2, ru2⟩ := rv2.get hy
    have hzl : o.z < s.heap.objs.size := Heap.lt_size t.z
    refine out_item ap (zs := its0.toArray) (xs := its.toArray) (ys := its2.toArray) (v := v0) (x := v) (y := v2) (by simpa using hv0) (by simpa using hv) (by simpa using hv2) ⟨t.z, t.ti, t.to, t.i, p0, ⟨t.cz, t.cti, t.cto, t.i1, t.i2, p, p2⟩⟩ fun h' T T2 z' to' ti' i' l' c' hT2 hT le2 le ne hk => ?_
    refine ⟨_, rfl, wpAny_letOwnedTupleGo_zip (s := { s with heap := h' }) z' fun h'' z'' sb => ?_⟩
    have nz : ∀ a : Addr, s.heap.objs.size ≤ a → a ≠ o.z := fun a h q => Nat.lt_irrefl _ (Nat.lt_of_lt_of_le hzl (q ▸ h))
    have gT : h''.get? T = some { cls := .type "tuple", data := .seq #[v0, .ref T2] } := (sb.2 _ (nz T le)).trans hT
    have gT2 : h''.get? T2 = some { cls := .type "tuple", data := .seq #[v, v2] } := (sb.2 _ (nz T2 le2)).trans hT2
    have new2 : ObjOk X.prog X.w (upd (upd H T2 (.tup [x, y])) T (.tup [u, .ref T2])) h'' T2 (.tup [x, y]) :=
      ⟨by show 2 ≤ sizeLine; decide, [v, v2], .cons ru (.cons ru2 .nil), ⟨_, gT2, rfl, _, rfl⟩⟩
    have new : ObjOk X.prog X.w (upd (upd H T2 (.tup [x, y])) T (.tup [u, .ref T2])) h'' T (.tup [u, .ref T2]) :=
      ⟨by show 2 ≤ sizeLine; decide, [v0, .ref T2], .cons ru0 (.cons rfl .nil), ⟨_, gT, rfl, _, rfl⟩⟩
    have I1 : Inv X pins σ (upd (upd H T2 (.tup [x, y])) T (.tup [u, .ref T2])) { s with heap := h'' } :=
      turnedNew2 (t' := s.toks) (ch := o.fp) I (fun a ob hb q => (sb.2 a (fun q' => hb (by rw [q']; simp [Out.fp]))).trans (hk a ob (fun q' => hb (by rw [q']; simp [Out.fp])) (fun q' => hb (by rw [q']; simp [Out.fp])) (fun q' => hb (by rw [q']; simp [Out.fp]))
        (fun q' => hb (by rcases q' with q' | q' | q' | q' <;> rw [q'] <;> simp [Out.fp])) q)) hf le le2 ne new2 new
    have kz : ∀ a ob, a ≠ o.z → h'.get? a = some ob → h''.get? a = some ob := fun a ob n e => (sb.2 a n).trans e
    obtain ⟨a0, b0, to''⟩ := to'
    obtain ⟨a1, b1, cto'⟩ := c'.to
    have cz := fun a h => (ap.cz a h).1
    refine ⟨.ref T, _, I1, rfl, ⟨T, T2, u, x, y, rfl, I.hok.fresh le, I.hok.fresh le2, ne, rfl, fun l hl => by rw [I.tuple_inj hl hqu]; exact hu, fun l hl => by rw [I.tuple_inj hl hqx]; exact hx, fun l hl => by rw [I.tuple_inj hl hqy]; exact hy⟩,
      ⟨z'', kz _ _ ap.TIz ti', ⟨a0, b0, kz _ _ ap.TOz to''⟩, i'.at fun ob e => kz _ ob ap.iz e, c'.z.keep fun ob e => kz _ ob (cz _ (.inl rfl)) e, kz _ _ (cz _ (.inr (.inl rfl))) c'.ti, ⟨a1, b1, kz _ _ (cz _ (.inr (.inr (.inl rfl)))) cto'⟩,
        c'.i1.at fun ob e => kz _ ob (cz _ (.inr (.inr (.inr (.inl rfl))))) e, c'.i2.at fun ob e => kz _ ob (cz _ (.inr (.inr (.inr (.inr (.inl rfl)))))) e⟩, fun a ha => ?_⟩
    obtain ⟨ob, e, _⟩ := t.obj a ha
    have hlt : a < s.heap.objs.size := Heap.lt_size e
    rw [upd_ne (Nat.ne_of_lt (Nat.lt_of_lt_of_le hlt le)), upd_ne (Nat.ne_of_lt (Nat.lt_of_lt_of_le hlt le2))]
    exact (hf a ha).1
  done := by
    intro X hP hw hK hc i pins s σ H E I hf t hg
    subst hP hw hK
    obtain ⟨us, hqu, hend⟩ := hg
    obtain ⟨its0, rv0, p0, _⟩ := I.tuple hqu
    have l0 := rv0.length
    obtain ⟨a, b, hto⟩ := t.to
    exact out_end (I.ok.hd hc) ap (zs := its0.toArray) (by simp; omega) t.z t.ti hto t.i p0 fun h' hk => ⟨rfl, I.turnedL (t' := s.toks) (ch := o.fp) (fun c ob hb q => hk c ob (fun q' => hb (by rw [q']; simp [Out.fp])) (fun q' => hb (by rw [q']; simp [Out.fp])) q) hf⟩
  self := fun A i s Q E t h => wpAny_pyIter_zip t.z h
end T.NZ
end

section
set_option Elab.async false
set_option linter.all false
set_option maxRecDepth 100000
set_option maxHeartbeats 2000000
namespace T.NZ
open PySem PySem.Spec PyProof.Rows L2
def iZipN (K : PySem.W.Frag) (te : TE) (ta : TA) : TI := fun σ H R => te σ H fun v0 H0 => ta σ H0 fun vs H1 => ∃ a b c us xs ys, v0 = V.ref a ∧ vs = [V.ref b, V.ref c] ∧ SqT K H1 a us ∧ SqT K H1 b xs ∧ SqT K H1 c ys ∧ R (ItzN K a b c) H1
theorem tup_lt {h : Heap} {a : Addr} {xs : Array Value} (p : IsTup h a xs) : a < h.objs.size := by
  obtain ⟨o, e, _⟩ := p
  exact Heap.lt_size e
theorem ne_big {x N k : Nat} (h : x < N + 5) (hk : 5 ≤ k) : x ≠ N + k := by omega
theorem ap_of {N a b c : Nat} (ha : a < N) (hb : b < N) (hc : c < N) : Out.Ap ⟨N + 8, N + 6, N + 7, N + 5, a, ⟨N + 4, N + 2, N + 3, N, N + 1, b, c⟩⟩ where
  ap := ⟨⟨by show N + 2 ≠ N + 4; omega, by show N + 3 ≠ N + 4; omega, by show N ≠ N + 4; omega, by show N + 1 ≠ N + 4; omega, by show N + 2 ≠ N + 3; omega, by show N + 2 ≠ N; omega, by show N + 2 ≠ N + 1; omega, by show N + 3 ≠ N; omega, by show N + 3 ≠ N + 1; omega, by show N ≠ N + 1; omega,
    by show b ≠ N + 4; omega, by show b ≠ N + 3; omega, by show b ≠ N; omega, by show b ≠ N + 1; omega, by show c ≠ N + 4; omega, by show c ≠ N + 3; omega, by show c ≠ N; omega, by show c ≠ N + 1; omega⟩⟩
  TIz := by show N + 6 ≠ N + 8; omega
  TOz := by show N + 7 ≠ N + 8; omega
  TITO := by show N + 6 ≠ N + 7; omega
  iz := by show N + 5 ≠ N + 8; omega
  TIi := by show N + 6 ≠ N + 5; omega
  TOi := by show N + 7 ≠ N + 5; omega
  li := by show a ≠ N + 5; omega
  lz := by show a ≠ N + 8; omega
  lTO := by show a ≠ N + 7; omega
  lc := fun x h => by
    rcases h with h | h | h | h <;> rw [h]
    · show a ≠ N + 4; omega
    · show a ≠ N + 3; omega
    · show a ≠ N; omega
    · show a ≠ N + 1; omega
  cz := fun x h => by
    have lt : (x : Nat) < N + 5 := by
      rcases h with h | h | h | h | h | h | h <;> rw [h]
      · show N + 4 < N + 5; omega
      · show N + 2 < N + 5; omega
      · show N + 3 < N + 5; omega
      · show N < N + 5; omega
      · show N + 1 < N + 5; omega
      · show b < N + 5; omega
      · show c < N + 5; omega
    exact ⟨ne_big (k := 8) lt (by decide), ne_big (k := 6) lt (by decide), ne_big (k := 7) lt (by decide), ne_big (k := 5) lt (by decide)⟩
theorem pi_zipN {X : Cx} {e e2 e3 : Expr} {te : TE} {ta : TA} {p p2 pos pos2 tpos : Pos} {elts : List Expr} {kk : Nat} (hg : Gl X "zip") (hm : X.mg "zip" = none) (he : PE X e te) (ha : PA X [e2, e3] ta)
    (hs : starEach [e, .Call (.Name "zip" p2) [e2, e3] [] pos2] X.env = (false, eval e X.env) :: starEach [.Call (.Name "zip" p2) [e2, e3] [] pos2] X.env := by rfl) (hpl : (backTo pos (starEach [.Call (.Name "zip" p2) [e2, e3] [] pos2] X.env)).any (·.1) = false := by rfl)
    (hs2 : backTo pos (starEach [.Call (.Name "zip" p2) [e2, e3] [] pos2] X.env) = [(false, eval (.Call (.Name "zip" p2) [e2, e3] [] pos2) X.env)] := by rfl)
    (hs3 : starEach [e2, e3] X.env = (false, eval e2 X.env) :: starEach [e3] X.env := by rfl) (hpl3 : (backTo pos2 (starEach [e3] X.env)).any (·.1) = false := by rfl) :
    PI X (.Tuple elts kk tpos) (.Call (.Name "zip" p) [e, .Call (.Name "zip" p2) [e2, e3] [] pos2] [] pos) (iZipN X.K te ta) := by
  refine ⟨fun pins s σ H R I h => ?_⟩
  refine Call_ (ld_blt I hg hm PyProof.Rows.boot_zip (PyProof.Rows.callWith_type1 ?_ hs hpl))
  rw [hs]
  show wpAny _ _ (spliced ((false, eval e X.env) :: backTo pos (starEach [.Call (.Name "zip" p2) [e2, e3] [] pos2] X.env))) _ _ s
  refine Calls.spliced_cons (thn (he.run pins s σ H _ I h) fun u s0 ⟨x0, H0, I0, r0, q0⟩ => ?_)
  rw [hs2]
  refine Calls.spliced_cons (Call_ (ld_blt I0 hg hm PyProof.Rows.boot_zip (PyProof.Rows.callWith_type1 (thn (ha.run pos2 pins s0 σ H0 _ I0 q0) fun us s1 ⟨vs, H1, I1, r1, q1⟩ => ?_) hs3 hpl3)))
  obtain ⟨a, b, c, ws, xs, ys, e0, ex, hqa, hqb, hqc, q⟩ := q1
  subst e0 ex
  cases r0
  cases r1 with
  | cons r rr =>
    cases rr with
    | cons r' rr =>
      cases rr
      cases r
      cases r'
      obtain ⟨its0, rv0, p0, _⟩ := I1.tuple hqa
      obtain ⟨its, rv, p1, _⟩ := I1.tuple hqb
      obtain ⟨its2, rv2, p2', _⟩ := I1.tuple hqc
      have la := tup_lt p0
      have lb := tup_lt p1
      have lc := tup_lt p2'
      refine RZ.call_zipT (show s1.heap.IsTuple b its.toArray from p1) (show s1.heap.IsTuple c its2.toArray from p2') fun h' hz hTI hTO h1 h2 hsz hk => Calls.spliced_nil ?_
      refine call_new (s := { s1 with heap := h' }) ((show s1.heap.IsTuple a its0.toArray from p0).at fun o e => hk _ o e) hz fun h'' hz' hTI' hTO' h1' hsz' hk' => wpAny_pyIter_zip hz' ?_
      have hsz : h'.objs.size = s1.heap.objs.size + 5 := hsz
      have I2 : L2.Inv X pins σ H1 { s1 with heap := h'' } := I1.kept (t' := s1.toks) fun b o e => hk' b o (hk b o e)
      generalize hN : s1.heap.objs.size = N at *
      have ez : h'.objs.size = N + 5 := hsz
      have hz' : IsZip h'' (N + 8) (N + 6) (N + 7) .none := by have := hz'; simp only [ez] at this; exact this
      have hTI' : IsPair h'' (N + 6) (.ref (N + 5)) (.ref (N + 4)) := by have := hTI'; simp only [ez] at this; exact this
      have hTO' : IsPair h'' (N + 7) .none .none := by have := hTO'; simp only [ez] at this; exact this
      have h1' : h''.IsTupleIter (N + 5) a 0 := by have := h1'; simp only [ez] at this; exact this
      have fresh : ∀ d : Nat, N ≤ d → FpOk X pins H1 d := fun d hd => I1.fpOk (by rw [hN]; exact hd) (I1.hok.fresh (by rw [hN]; exact hd))
      refine ⟨N + 8, Out.fp ⟨N + 8, N + 6, N + 7, N + 5, a, ⟨N + 4, N + 2, N + 3, N, N + 1, b, c⟩⟩, Out.Tn ⟨N + 8, N + 6, N + 7, N + 5, a, ⟨N + 4, N + 2, N + 3, N, N + 1, b, c⟩⟩, _, H1, ?_, I2, turn_zipN (ap_of la lb lc), ?_, ?_, q⟩
      · show Value.ref (h'.objs.size + 3) = _
        rw [ez]
      · exact ⟨hz', hTI', ⟨_, _, hTO'⟩, h1', ⟨_, _, .inl rfl, hk' _ _ hz⟩, hk' _ _ hTI, ⟨_, _, hk' _ _ hTO⟩, h1.at fun o e => hk' _ o e, h2.at fun o e => hk' _ o e⟩
      · intro d hd
        have : (d : Nat) = N + 8 ∨ d = N + 6 ∨ d = N + 7 ∨ d = N + 5 ∨ d = N + 4 ∨ d = N + 2 ∨ d = N + 3 ∨ d = N ∨ d = N + 1 := by simpa [Out.fp] using hd
        refine fresh d ?_
        rcases this with q | q | q | q | q | q | q | q | q <;> rw [q] <;> first | exact Nat.le_refl _ | exact Nat.le_add_right _ _
end T.NZ
end

section
set_option Elab.async false
set_option linter.all false
set_option maxRecDepth 100000
set_option maxHeartbeats 2000000
namespace T
open PySem PySem.Spec PyProof.Rows L2
/-! ### for .. in zip(t, zip(u, v)), tuples of one length -/
def zipN (as bs cs : List D) : List D := zipD as (zipD bs cs)
def oZipN : List D → Ro → R (List D)
  | [.tup as, .tup bs, .tup cs], ρ => if as.length = bs.length ∧ bs.length = cs.length then .ok (zipN (fzs as) (fzs bs) (fzs cs)) ρ else .bad
  | _, _ => .bad
section
variable {K : Frag} {cA : Cid → Addr} {F : FP} {H0 : Hp}
theorem runs_zipN {a b c : Addr} {as bs cs : List D} (ra : Rep K cA F H0 (.tup as) (.ref a) no) (rb : Rep K cA F H0 (.tup bs) (.ref b) no) (rc : Rep K cA F H0 (.tup cs) (.ref c) no) (l1 : as.length = bs.length) (l2 : bs.length = cs.length) : Runs K cA F H0 (NZ.ItzN K a b c) (zipN as bs cs) := by
  refine ⟨fun i d H F1 A1 hd st f k => ?_, fun i H F1 A1 hl st f k => ?_⟩
  · obtain ⟨da, dbc, ea, ebc, rfl⟩ := zipD_get hd
    obtain ⟨db, dc, eb, ec, rfl⟩ := zipD_get ebc
    obtain ⟨vs, sa, r1⟩ := tup_at ra f k
    obtain ⟨ws, sb, r2⟩ := tup_at rb f k
    obtain ⟨xs, sc, r3⟩ := tup_at rc f k
    obtain ⟨v, A2, e1, z1, q1⟩ := r1.get ea
    obtain ⟨w, A3, e2, z2, q2⟩ := r2.get eb
    obtain ⟨x, A4, e3, z3, q3⟩ := r3.get ec
    refine ⟨⟨vs, ws, xs, v, w, x, sa, sb, sc, e1, e2, e3⟩, fun y H' ⟨T, T2, y0, y1, y2, ey, nT, nT2, ne, eH, g0, g1, g2⟩ => ?_⟩
    have g0 := g0 vs sa
    have g1 := g1 ws sb
    have g2 := g2 xs sc
    rw [e1] at g0
    rw [e2] at g1
    rw [e3] at g2
    cases g0
    cases g1
    cases g2
    subst ey
    subst eH
    obtain ⟨k1, F2, s1, p1⟩ := tup_turn st nT2 (Reps.two (q2.move (fun _ y => y) (fun _ _ _ e => e) z2) (q3.move (fun _ y => y) (fun _ _ _ e => e) z3))
    have nT' : upd H T2 (.tup [w, x]) T = none := by rw [upd_ne (fun z => ne z.symm)]; exact nT
    have q1' : Rep K cA F2 (upd H T2 (.tup [w, x])) da v no := q1.move s1.fr (fun b o _ e => k1 b o e) z1
    obtain ⟨k2, F3, s2, p2⟩ := tup_turn s1.sta nT' (Reps.two q1' p1)
    exact ⟨fun b o e => k2 b o (k1 b o e), F3, s1.trans s2, p2⟩
  · obtain ⟨vs, sa, r1⟩ := tup_at ra f k
    have h1 : (zipN as bs cs).length = as.length := by
      unfold zipN zipD
      rw [List.length_zipWith, List.length_zipWith]
      omega
    exact ⟨vs, sa, by rw [← r1.len]; omega⟩
end
theorem lft_cons {K : Frag} {L : Lc} {m : Ro → R D} {ms : Ro → R (List D)} : ∀ σ H Q, lft K L rA (mCons m ms) σ H Q → tCons (lft K L rE m) (lft K L rA ms) σ H Q := by
  intro σ H Q h
  refine lft_bind h fun v H1 F1 A1 B1 d ρ1 st dj en q p => ?_
  refine lft_rest st dj en p fun vs H2 F2 A2 B2 ds ρ2 st2 dj2 dj2' en2 q2 fr kb p2 => ?_
  exact p2.ret (A1 := A2) (B := un B1 B2) st2 (fun b x => x.elim (fun x => .inl (.inl x)) fun x => x.elim .inr fun x => .inl (.inr x)) (fun b x y => y.elim (dj2' b (.inl x)) (dj2 b x)) en2 ⟨v, vs, B1, B2, rfl, ⟨fun b x => .inl x, fun b x => .inr x, fun b x y => dj2' b (.inr y) x⟩, q.move fr kb fun _ x => x, q2⟩
section
variable {X : Cx} {L : Lc} {pos pos2 p p2 tpos : Pos} {e e2 e3 : Expr} {elts : List Expr} {kk : Nat} {m : Ro → R D} {ms : Ro → R (List D)}
theorem di_zipN (he : DE X L e m) (ha : DA X L [e2, e3] ms) (hm : X.mg "zip" = none) (hg : Gl X "zip" := by rfl)
    (hs : starEach [e, .Call (.Name "zip" p2) [e2, e3] [] pos2] X.env = (false, eval e X.env) :: starEach [.Call (.Name "zip" p2) [e2, e3] [] pos2] X.env := by rfl) (hpl : (backTo pos (starEach [.Call (.Name "zip" p2) [e2, e3] [] pos2] X.env)).any (·.1) = false := by rfl)
    (hs2 : backTo pos (starEach [.Call (.Name "zip" p2) [e2, e3] [] pos2] X.env) = [(false, eval (.Call (.Name "zip" p2) [e2, e3] [] pos2) X.env)] := by rfl)
    (hs3 : starEach [e2, e3] X.env = (false, eval e2 X.env) :: starEach [e3] X.env := by rfl) (hpl3 : (backTo pos2 (starEach [e3] X.env)).any (·.1) = false := by rfl) :
    DI X L (.Tuple elts kk tpos) (.Call (.Name "zip" p) [e, .Call (.Name "zip" p2) [e2, e3] [] pos2] [] pos) (fun ρ => (mCons m ms ρ).bind oZipN) := ⟨pi_to (NZ.pi_zipN hg hm he.pe ha.pa hs hpl hs2 hs3 hpl3) fun σ H Q ⟨ρ, F, A, st, en, po⟩ => by
  have key : lft X.K L rA (mCons m ms) σ H fun v3 H1 => ∃ a b c us xs ys, v3 = [V.ref a, V.ref b, V.ref c] ∧ SqT X.K H1 a us ∧ SqT X.K H1 b xs ∧ SqT X.K H1 c ys ∧ Q (NZ.ItzN X.K a b c) H1 := by
    refine ⟨ρ, F, A, st, en, ?_⟩
    have po : PostI X.K L F A H σ Q ((mCons m ms ρ).bind oZipN) := po
    cases er : mCons m ms ρ with
    | bad => rw [er] at po; exact po
    | exc x ρ1 => rw [er] at po; exact po
    | ok a ρ1 =>
      rw [er] at po
      intro vs H1 F1 A1 B1 s dj en1 q
      have po : PostI X.K L F A H σ Q (oZipN a ρ1) := po
      unfold oZipN at po
      split at po
      · rename_i as bs cs
        split at po
        · rename_i hl
          obtain ⟨v1, _, _, _, rfl, s1, r1, v2, _, _, _, rfl, s2, r2, v3, _, _, _, rfl, s3, r3, rfl⟩ := q
          have q1 := r1.fz (F' := un F1 B1) (fun b x => .inr (s1.l b x)) (fun _ x => .inl x)
          have q2 := r2.fz (F' := un F1 B1) (fun b x => .inr (s1.r b (s2.l b x))) (fun _ x => .inl x)
          have q3 := r3.fz (F' := un F1 B1) (fun b x => .inr (s1.r b (s2.r b (s3.l b x)))) (fun _ x => .inl x)
          obtain ⟨a1, us1, rfl, t1, _⟩ := id q1
          obtain ⟨a2, us2, rfl, t2, _⟩ := id q2
          obtain ⟨a3, us3, rfl, t3, _⟩ := id q3
          exact ⟨a1, a2, a3, us1, us2, us3, rfl, t1.sq, t2.sq, t3.sq, fin_it s dj en1 po (runs_zipN q1 q2 q3 (by rw [fzs_len, fzs_len]; exact hl.1) (by rw [fzs_len, fzs_len]; exact hl.2))⟩
        · exact po.elim
      · exact po.elim
  have k2 := lft_cons σ H _ key
  obtain ⟨ρ', F', A', st', en', p'⟩ := k2
  refine ⟨ρ', F', A', st', en', ?_⟩
  cases er : m ρ' with
  | bad => rw [er] at p'; exact p'
  | exc x ρ1 => rw [er] at p'; exact p'
  | ok a ρ1 =>
    rw [er] at p'
    intro v H1 F1 A1 B1 s dj en1 q
    obtain ⟨ρ2, F2, A2, st2, en2, p2⟩ := p' v H1 F1 A1 B1 s dj en1 q
    refine ⟨ρ2, F2, A2, st2, en2, ?_⟩
    cases er2 : ms ρ2 with
    | bad => rw [er2] at p2; exact p2
    | exc x ρ1 => rw [er2] at p2; exact p2
    | ok a ρ1 =>
      rw [er2] at p2
      intro vs H3 F3 A3 B3 s3 dj3 en3 q3
      obtain ⟨a, b, c, us, xs, ys, e, h1, h2, h3, h4⟩ := p2 vs H3 F3 A3 B3 s3 dj3 en3 q3
      cases e
      exact ⟨a, b, c, us, xs, ys, rfl, rfl, h1, h2, h3, h4⟩⟩
end
end T
end

section
set_option Elab.async false
set_option linter.all false
set_option maxRecDepth 100000
set_option maxHeartbeats 4000000
namespace T
open PySem PySem.Spec PyProof.Rows L2
/-! ### a value that is only looked at, but for one name that is lent -/
def mBL {α : Type} (i : Nat) (cl : α → Bool) (m : Ro → R α) : Ro → R α := fun ρ => match ρ[i]? with
  | some (some d) => match m (((ρ.set i none).map fzo).set i (some d)) with
    | .bad => .bad
    | .exc x ρ' => .exc x ρ'
    | .ok a ρ' => match ρ'[i]? with
      | some (some d1) => if clean d1 && cl a then .ok a (ρ.set i (some d1)) else .bad
      | _ => .bad
  | _ => .bad
section
variable {X : Cx} {L : Lc}
theorem lft_BL {K : Frag} {α β : Type} {rel : Rel α β} {i : Nat} {cl : α → Bool} {m : Ro → R α} (hcl : ∀ (F F' A : FP) (H : Hp) a y, (∀ a vs, F a → H a = some (.tup vs) → F' a) → cl a = true → rel K L.cA F H a y A → rel K L.cA F' H a y A) :
    ∀ σ H Q, lft K L rel (mBL i cl m) σ H Q → lft K L rel m σ H Q := by
  rintro σ H Q ⟨ρ, F, A, st, en, p⟩
  unfold mBL at p
  cases e0 : ρ[i]? with
  | none => rw [e0] at p; exact p.elim
  | some o =>
  cases o with
  | none => rw [e0] at p; exact p.elim
  | some d =>
  rw [e0] at p
  dsimp only at p
  obtain ⟨v, A1, A2, ev, sp, r, rest⟩ := en.env.take e0
  have st0 : Sta (un F A2) (un no A1) H := ⟨fun b x y => x.elim False.elim fun x => y.elim (st.dj b (sp.l b x)) (sp.d b x), fun b x => x.elim (fun x => x.elim (fun x => st.dom b (.inl x)) fun x => st.dom b (.inr (sp.r b x))) fun x => x.elim False.elim fun x => st.dom b (.inr (sp.l b x)), fun b vs x => x.elim False.elim fun x => st.nt b vs (sp.l b x)⟩
  have e1 : EnvR K L.cA (un F A2) H (((ρ.set i none).map fzo).set i (some d)) σ (un no A1) := (rest.fz (fun _ x => .inr x) fun _ x => .inl x).back (r.move (fun _ x => .inl x) (fun _ _ _ e => e) fun _ x => x) (fun b x => x.elim) ev
  refine ⟨_, un F A2, un no A1, st0, ⟨e1, en.pin⟩, ?_⟩
  cases e : m (((ρ.set i none).map fzo).set i (some d)) with
  | bad => rw [e] at p; exact p
  | exc x ρ' =>
    rw [e] at p
    intro c dd H1 F1 B1 s en1 q
    refine p c dd H1 F1 B1 ⟨fun b o e n => s.keep b o e fun z => z.elim False.elim fun z => n (sp.l b z), s.live, fun b x => s.fr b (.inl x), fun b x => ?_, fun b x => (s.anew b x).elim (fun z => z.elim False.elim fun z => .inl (sp.l b z)) .inr, s.sta⟩ en1 q
    rcases s.fnew b x with (x | x) | (x | x) | x
    · exact .inl x
    · exact .inr (.inl (sp.r b x))
    · exact x.elim
    · exact .inr (.inl (sp.l b x))
    · exact .inr (.inr x)
  | ok a ρ' =>
  rw [e] at p
  dsimp only at p
  intro y H1 F1 C B s dj en1 q
  cases e2 : ρ'[i]? with
  | none => rw [e2] at p; exact p.elim
  | some o =>
  cases o with
  | none => rw [e2] at p; exact p.elim
  | some d1 =>
  rw [e2] at p
  dsimp only at p
  by_cases hc : (clean d1 && cl a) = true
  · rw [if_pos hc] at p
    have hc' := Bool.and_eq_true_iff.mp hc
    obtain ⟨v', C1, C2, ev', sp', r', -⟩ := en1.env.take e2
    have kp : ∀ b o, ¬ A1 b → H b = some o → H1 b = some o := fun b o n e => s.keep b o e fun z => z.elim False.elim n
    have n12 : ∀ b, A2 b → ¬ A1 b := fun b x y => sp.d b y x
    have nA : ∀ b, A2 b → ∀ vs, H1 b ≠ some (.tup vs) := fun b x vs z => by
      cases e : H b with
      | none => exact st.dom b (.inr (sp.r b x)) e
      | some o =>
        rw [kp b o (n12 b x) e] at z
        exact st.nt b vs (sp.r b x) (e.trans z)
    have nw : ∀ b, un C B b → A2 b → False := fun b x z => (s.anew b x).elim (fun w => w.elim False.elim (n12 b z)) (st.dom b (.inr (sp.r b z)))
    have cl : ∀ a vs, F1 a → H1 a = some (.tup vs) → F1 a ∧ ¬ A2 a := fun a vs f t => ⟨f, fun z => nA a z vs t⟩
    have e3 : EnvR K L.cA (fun b => F1 b ∧ ¬ A2 b) H1 (ρ.set i (some d1)) σ (un A2 C1) := by
      have z := (rest.move (F' := fun b => F1 b ∧ ¬ A2 b) (H' := H1) (fun b x => ⟨s.fr b (.inl x), fun z => st.dj b (sp.r b z) x⟩) (fun b o x e => kp b o (fun w => x.elim (fun x => st.dj b (sp.l b w) x) fun x => sp.d b w x) e) fun _ x => x).back (r'.clean cl hc'.1) (fun b x y => nw b (.inl (sp'.l b y)) x) ev'
      rw [List.set_set] at z
      exact z
    refine p y H1 (fun b => F1 b ∧ ¬ A2 b) (un A2 C1) B ⟨fun b o e n => kp b o (fun z => n (sp.l b z)) e, s.live, fun b x => ⟨s.fr b (.inl x), fun z => st.dj b (sp.r b z) x⟩, fun b x => ?_, fun b x => ?_, ⟨fun b x y => ?_, fun b x => ?_, fun b vs x => ?_⟩⟩ (fun b x z => x.elim (nw b (.inr z)) fun x => dj b (sp'.l b x) z) ⟨e3, en1.pin⟩ (hcl _ _ _ _ _ _ cl hc'.2 q)
    · rcases s.fnew b x.1 with (z | z) | (z | z) | z
      · exact .inl z
      · exact (x.2 z).elim
      · exact z.elim
      · exact .inr (.inl (sp.l b z))
      · exact .inr (.inr z)
    · rcases x with (x | x) | x
      · exact .inl (sp.r b x)
      · exact (s.anew b (.inl (sp'.l b x))).imp (fun z => z.elim False.elim (sp.l b)) id
      · exact (s.anew b (.inr x)).imp (fun z => z.elim False.elim (sp.l b)) id
    · rcases x with (x | x) | x
      · exact y.2 x
      · exact s.sta.dj b (.inl (sp'.l b x)) y.1
      · exact s.sta.dj b (.inr x) y.1
    · rcases x with x | (x | x) | x
      · exact s.sta.dom b (.inl x.1)
      · exact s.live b (st.dom b (.inr (sp.r b x)))
      · exact s.sta.dom b (.inr (.inl (sp'.l b x)))
      · exact s.sta.dom b (.inr (.inr x))
    · rcases x with (x | x) | x
      · exact nA b x vs
      · exact s.sta.nt b vs (.inl (sp'.l b x))
      · exact s.sta.nt b vs (.inr x)
  · rw [if_neg hc] at p
    exact p.elim
theorem de_bL (i : Nat) {e : Expr} {m : Ro → R D} (h : DE X L e m) : DE X L e (mBL i clean m) := ⟨pe_to h.pe (lft_BL fun _ _ _ _ _ _ k c r => Rep.clean k c r)⟩
/-! ### two tuples in order -/
def notN : PyData → Bool
  | .none => false
  | _ => true
def oLtA : D → D → Ro → R D := fun x y ρ => match toPy x, toPy y with
  | some a, some b => if (flat a || flat b) && (PySem.W.alike a b && notN a) then .ok (.bl (PySem.W.dataLt a b)) ρ else .bad
  | _, _ => .bad
theorem op_ltP (hu : X.A.units + 64 < cLine) : OpR X (compareOp .Lt) (fun x y H Q => ∃ d e, Dp X.K H x d ∧ Dp X.K H y e ∧ (flat d || flat e) = true ∧ PySem.W.alike d e = true ∧ d ≠ .none ∧ Q (.bl (PySem.W.dataLt d e)) H) := by
  intro pins s σ H x y v u Q I rx ry h
  obtain ⟨d, e, hd, he, fl, al, nn, q⟩ := h
  obtain ⟨as, r1⟩ := Dp.reads I d x v hd rx
  obtain ⟨bs, r2⟩ := Dp.reads I e y u he ry
  exact PySem.W.lt_data r1 r2 al nn (flat_room fl hu) ⟨.bl _, H, I, rfl, q⟩
theorem cr_ltA {b : Expr} (hu : X.A.units + 64 < cLine) : CmpR X L .Lt b oLtA := ⟨⟨_, op_ltP hu, fun F A B1 B2 H σ Q d1 d2 v1 v2 ρ st dj dj' en q1 q2 p => by
  unfold oLtA at p
  split at p
  · rename_i x y e1 e2
    split at p
    · rename_i hf
      have hf' := Bool.and_eq_true_iff.mp hf
      have hg := Bool.and_eq_true_iff.mp hf'.2
      exact ⟨x, y, Rep.dp e1 q1, Rep.dp e2 q2, hf'.1, hg.1, (fun z => by subst z; cases hg.2), p.leaf (w := .bl _) rfl st (fun b x => .inl (.inl x)) en⟩
    · exact p.elim
  · exact p.elim⟩, nomark _⟩
end
end T
end

section
set_option Elab.async false
set_option linter.all false
set_option maxRecDepth 100000
set_option maxHeartbeats 4000000
namespace T
open PySem PySem.Spec PyProof.Rows L2
/-! ### dicts that are looked at: d[k], k in d, len(d), dict(d) -/
def rIxD : R2 := fun x y H Q => ∃ a v, x = .ref a ∧ DGet H a y (some v) ∧ Q v H
theorem ix_dict {X : Cx} (hu : X.A.units + 64 < cLine) : IxR X rIxD := by
  intro value slice pins s σ H x y v u Q I rx ry h hs
  obtain ⟨a, z, rfl, g, q⟩ := h
  obtain rfl : v = Value.ref a := rx
  have hT := dict_typeIs I g
  unfold subscriptTail
  refine wpAny_bind ?_
  rw [getitemInPython_of_ne hT.not_modules]
  refine wpAny_bind (wpAny_specialOf hT PySem.F.slot_dict_getitem.lookup ?_)
  have fin : wpAny (model X.prog X.w) X.A (subscripted slice false (.ref a) u) (fun r s₃ => wpAny (model X.prog X.w) X.A (letTemporaryGo value (.ref a) r >>= fun _ => pure r) (EP X pins σ Q) X.xe s₃) X.xe s := by
    rw [hs]
    exact wpAny_operating (d_getItem (by omega) I g ry fun w' s' I' rw' => wpAny_bind (wpAny_letTemporaryGo (wpAny_pure ⟨z, H, I', rw', q⟩)))
  first
    | exact wpAny_pure (wpAny_bind fin)
    | exact wpAny_bind (wpAny_pure (wpAny_bind fin))
    | exact wpAny_bind fin
section
variable {X : Cx} {L : Lc} {pos p : Pos} {a b e : Expr} {ma mb m : Ro → R D} {es : List Expr} {ms : Ro → R (List D)}
theorem op2_ix {K : Frag} : Op2 K L (rIx K) oIx := fun F A B1 B2 H σ Q d1 d2 v1 v2 ρ st dj dj' en q1 q2 p => by
  cases d2 <;> first | (cases d1 <;> exact p.elim) | skip
  rename_i i
  cases d1 <;> first | exact p.elim | skip
  · rename_i z
    have p : Post K L rE F (un (un A B2) B1) H σ Q (if szOk z.length then (match L2.atI z.cps.toList i with
      | some c => .ok (.str ⟨#[c]⟩) ρ
      | none => .bad) else .bad) := p
    by_cases hz : szOk z.length = true
    · rw [if_pos hz] at p
      cases el : L2.atI z.cps.toList i with
      | none => rw [el] at p; exact p.elim
      | some c =>
        rw [el] at p
        exact .inr (.inr ⟨z, i, c, q1, q2, of_decide_eq_true hz, el, p.leaf (w := .str _) rfl st (fun b x => .inl (.inl x)) en⟩)
    · rw [if_neg hz] at p; exact p.elim
  · rename_i ds
    obtain ⟨a, vs, rfl, t, r⟩ := q1
    have p : Post K L rE F (un (un A B2) B1) H σ Q (match L2.atI ds i with
      | some d => .ok d ρ
      | none => .bad) := p
    cases el : L2.atI ds i with
    | none => rw [el] at p; exact p.elim
    | some d =>
      rw [el] at p
      obtain ⟨v, A1, e1, z, q⟩ := r.atI el
      exact .inr (.inl ⟨a, vs, i, v, rfl, q2, t.sq, e1, p.ret (A1 := A) (B := A1) st (fun b x => x.elim (fun x => .inl (.inl x)) fun x => .inr (z b x)) (fun b x y => dj' b (.inl x) (z b y)) en q⟩)
  · rename_i o ds
    obtain ⟨a, vs, A', rfl, t, s, r⟩ := q1.lst
    have p : Post K L rE F (un (un A B2) B1) H σ Q (match L2.atI ds i with
      | some d => .ok d ρ
      | none => .bad) := p
    cases el : L2.atI ds i with
    | none => rw [el] at p; exact p.elim
    | some d =>
      rw [el] at p
      obtain ⟨v, A1, e1, z, q⟩ := r.atI el
      exact .inl ⟨a, vs, i, v, rfl, q2, .inl t, e1, p.ret (A1 := A) (B := A1) st (fun b x => x.elim (fun x => .inl (.inl x)) fun x => .inr (s b (z b x))) (fun b x y => dj' b (.inl x) (s b (z b y))) en q⟩
def oIxA : D → D → Ro → R D := fun a b ρ => match a, keyD b with
  | .dK false ks ds, some k => (match valD (ks.zip ds) k with
    | some d => .ok d ρ
    | none => .bad)
  | a, _ => oIx a b ρ
theorem DGet.of {K : Frag} {cA : Cid → Addr} {F A : FP} {H : Hp} {ks : List Key} {ds : List D} {v : V} {b : D} {vb : V} {B : FP} {k : Key} (r : Rep K cA F H (.dK false ks ds) v A) (e : keyD b = some k) (rb : Rep K cA F H b vb B) :
    ∃ a, v = .ref a ∧ ((valD (ks.zip ds) k = none ∧ DGet H a vb none) ∨ ∃ d z, valD (ks.zip ds) k = some d ∧ DGet H a vb (some z) ∧ Rep K cA F H d z no) := by
  obtain ⟨a, vs, rfl, t, l, f, r⟩ := r
  have ev := keyD_rep e rb
  subst ev
  refine ⟨a, rfl, ?_⟩
  rcases (PK.of l r).val k with ⟨g1, g2⟩ | ⟨d, z, g1, g2, g3⟩
  · exact .inl ⟨g1, g2 ▸ DGet.k t⟩
  · exact .inr ⟨d, z, g1, g2 ▸ DGet.k t, g3⟩
theorem op2_ixA : Op2 X.K L (fun x y H Q => rIx X.K x y H Q ∨ rIxD x y H Q) oIxA := fun F A B1 B2 H σ Q d1 d2 v1 v2 ρ st dj dj' en q1 q2 p => by
  unfold oIxA at p
  split at p
  · rename_i ks ds k ek
    obtain ⟨a, rfl, ⟨g1, g2⟩ | ⟨d, z, g1, g2, g3⟩⟩ := DGet.of q1 ek q2
    · rw [g1] at p; exact p.elim
    · rw [g1] at p
      exact .inr ⟨a, z, rfl, g2, p.val (A1 := A) st (fun b x => .inl (.inl x)) en g3⟩
  · exact .inl (op2_ix F A B1 B2 H σ Q _ _ _ _ _ st dj dj' en q1 q2 p)
theorem de_ixA (hu : X.A.units + 64 < cLine) (ha : DE X L a ma) (hb : DE X L b mb) (hs : PlainIx b := by exact fun _ _ => rfl) : DE X L (.Subscript a b pos) (m2 oIxA ma mb) := ⟨pe_to (pe_ix (ix_seq.or (ix_dict hu)) ha.pe hb.pe hs) (lft_2 op2_ixA)⟩
/-! k in d -/
def rInD (f : Bool → Bool) : R2 := fun y x H Q => ∃ a o, x = .ref a ∧ DGet H a y o ∧ Q (.bl (f o.isSome)) H
theorem op_inD (hu : X.A.units + 64 < cLine) : OpR X (compareOp .In) (rInD id) := by
  intro pins s σ H y x u v Q I ry rx h
  obtain ⟨a, o, rfl, g, q⟩ := h
  obtain rfl : v = Value.ref a := rx
  exact d_in (by omega) I g ry fun s' I' => ⟨.bl o.isSome, H, I', rfl, q⟩
theorem op_notInD (hu : X.A.units + 64 < cLine) : OpR X (compareOp .NotIn) (rInD (!·)) := by
  intro pins s σ H y x u v Q I ry rx h
  obtain ⟨a, o, rfl, g, q⟩ := h
  obtain rfl : v = Value.ref a := rx
  exact d_notIn (by omega) I g ry fun s' I' => ⟨.bl (!o.isSome), H, I', rfl, q⟩
def oInD (f : Bool → Bool) : D → D → Ro → R D := fun b a ρ => match a, keyD b with
  | .dK false ks ds, some k => .ok (.bl (f (valD (ks.zip ds) k).isSome)) ρ
  | _, _ => .bad
theorem op2_inD {K : Frag} (f : Bool → Bool) : Op2 K L (rInD f) (oInD f) := fun F A B1 B2 H σ Q d1 d2 v1 v2 ρ st dj dj' en q1 q2 p => by
  unfold oInD at p
  split at p
  · rename_i ks ds k ek
    obtain ⟨a, rfl, ⟨g1, g2⟩ | ⟨d, z, g1, g2, g3⟩⟩ := DGet.of q2 ek q1
    · rw [g1] at p
      exact ⟨a, _, rfl, g2, p.leaf (w := .bl _) rfl st (fun b x => .inl (.inl x)) en⟩
    · rw [g1] at p
      exact ⟨a, _, rfl, g2, p.leaf (w := .bl _) rfl st (fun b x => .inl (.inl x)) en⟩
  · exact p.elim
theorem cr_inD (hu : X.A.units + 64 < cLine) (hm : behindInMarks .In b = false := by rfl) : CmpR X L .In b (oInD id) := ⟨⟨_, op_inD hu, op2_inD id⟩, hm⟩
theorem cr_notInD (hu : X.A.units + 64 < cLine) (hm : behindInMarks .NotIn b = false := by rfl) : CmpR X L .NotIn b (oInD (!·)) := ⟨⟨_, op_notInD hu, op2_inD (!·)⟩, hm⟩
/-! len(d), dict(d) -/
def oLenD : List D → Ro → R D
  | [.dK _ ks ds], ρ => .ok (.int (ks.zip ds).length) ρ
  | _, _ => .bad
def rLenD : List V → Hp → VK → Prop := fun xs H Q => ∃ a kvs, xs = [.ref a] ∧ Rd H a (.dK kvs) ∧ Q (.int kvs.length) H
theorem call_lenD : CallR X (.builtin "len") rLenD := by
  intro pins s σ H vs us Q I r h
  obtain ⟨a, kvs, rfl, e, q⟩ := h
  rw [Vals.ref1 r]
  exact d_len I e fun t s' I' => ⟨.int kvs.length, H, I', ⟨t, rfl⟩, q⟩
theorem on_lenD {K : Frag} : OpN K L rLenD oLenD := by
  intro F A B H σ Q ds vs ρ st dj en q p
  unfold oLenD at p
  split at p
  · rename_i o ks ds
    obtain ⟨v, vs', B1, B2, rfl, s, r, rs⟩ := q
    cases rs
    obtain ⟨a, ws, rfl, t, l, _, A', rr⟩ := r.dK
    have hl : (ks.zip ds).length = (ks.zip ws).length := by rw [List.length_zip, List.length_zip, rr.len]
    rw [hl] at p
    exact ⟨a, _, rfl, .inl t, p.leaf (w := .int _) rfl st (fun b x => .inl x) en⟩
  · exact p.elim
theorem de_lenD (hm : X.mg "len" = none) (ha : DA X L (e :: es) ms) (hg : Gl X "len" := by rfl) (he : starEach (e :: es) X.env = (false, eval e X.env) :: starEach es X.env := by rfl) (hpl : (backTo pos (starEach es X.env)).any (·.1) = false := by rfl) :
    DE X L (.Call (.Name "len" p) (e :: es) [] pos) (mN oLenD ms) := de_callB call_lenD on_lenD hm (by decide +kernel) ha hg (by decide) (by decide) he hpl
def oDictC : List D → Ro → R D
  | [.dK false ks ds], ρ => .ok (.dK true ((ks.zip ds).map (·.1)) ((ks.zip ds).map (·.2))) ρ
  | _, _ => .bad
def rDictC : List V → Hp → VK → Prop := fun xs H Q => ∃ a kvs, xs = [.ref a] ∧ Rd H a (.dK kvs) ∧ ∀ p, H p = none → Q (.ref p) (upd H p (.dK kvs))
theorem call_dictC : CallR X (.type "dict") rDictC := by
  intro pins s σ H vs us Q I r h
  obtain ⟨a, kvs, rfl, e, q⟩ := h
  rw [Vals.ref1 r]
  exact d_copyOf I e fun p s' np I' => ⟨.ref p, _, I', rfl, q p np⟩
theorem on_dictC {K : Frag} : OpN K L rDictC oDictC := by
  intro F A B H σ Q ds vs ρ st dj en q p
  unfold oDictC at p
  split at p
  · rename_i ks ds
    obtain ⟨v, vs', B1, B2, rfl, s, r, rs⟩ := q
    cases rs
    obtain ⟨a, ws, rfl, t, l, f, rr⟩ := r
    have st1 : Sta F (un A no) H := st.sub fun b x => x.elim .inl False.elim
    refine ⟨a, _, rfl, .inl t, fun l' np => end_dK st1 en (PK.of l rr) np (Post.step ((Step.refl st).sub fun b x => x.elim .inl False.elim) p)⟩
  · exact p.elim
theorem de_dictC (hm : X.mg "dict" = none) (ha : DA X L (e :: es) ms) (hg : Gl X "dict" := by rfl) (he : starEach (e :: es) X.env = (false, eval e X.env) :: starEach es X.env := by rfl) (hpl : (backTo pos (starEach es X.env)).any (·.1) = false := by rfl) :
    DE X L (.Call (.Name "dict" p) (e :: es) [] pos) (mN oDictC ms) := de_callTy call_dictC on_dictC hm (by decide +kernel) ha hg (by decide) (by decide) he hpl
/-! x[k] = v, leaves alone -/
def mSetK (i : Nat) (mk m : Ro → R D) : Ro → RS := fun ρ => bS (m ρ) fun d ρ1 => match ρ1[i]? with
  | some (some (.dK true _ _)) => bS (mk ρ1) fun k ρ2 => (match keyD k, ρ2[i]? with
    | some k', some (some (.dK true ks ds)) => if ds.all lf && lf d && decide ((ks.zip ds).length < 1000) then
        .nx (ρ2.set i (some (.dK true ((putD (ks.zip ds) k' d).map (·.1)) ((putD (ks.zip ds) k' d).map (·.2))))) else .bad
    | _, _ => .bad)
  | _ => .bad
theorem ds_setK (i : Nat) {x : Str} {pos' : Pos} {mi : Ro → R D} (hu : X.A.units + 64 < cLine) (he : DE X L e m) (hi : DE X L b mi) (hN : X.N[i]? = some x := by rfl) (hv : Vis X.env.scope x := by first | exact Or.inl rfl | exact Or.inr (Or.inl rfl) | exact Or.inr (Or.inr rfl)) (hd : (x == ("__debug__" : Str)) = false := by decide) (hcd : (x == ("__classdict__" : Str)) = false := by decide)
    (hs : swapsWith e (some (.Subscript (.Name x p) b pos')) pos.line X.env = pure false := by rfl) :
    DS X L (.Assign [.Subscript (.Name x p) b pos'] e pos) (mSetK i mi m) := ⟨ps_to (ps_dput (by omega) (pe_var hN hv hd hcd) hi.pe he.pe hs) fun D σ H h => by
  refine lftS_bind h fun v H1 F1 A1 B1 d ρ1 st dj en q po => ?_
  split at po
  · rename_i ks0 ds0 e0
    obtain ⟨v0, _, _, e1, _, _, _⟩ := en.env.take e0
    refine ⟨v0, e1, ?_⟩
    refine lftS_rest2 st dj en po fun kv H2 F2 A2 B2 k ρ2 st2 dj2 dj2' en2 q2 fr kb p2 => ?_
    split at p2
    · rename_i k' ks ds ek e2
      split at p2
      · rename_i hc
        rw [Bool.and_eq_true, Bool.and_eq_true] at hc
        obtain ⟨⟨l1, l2⟩, hz⟩ := hc
        have hz := of_decide_eq_true hz
        have st3 : Sta F2 (un A2 B1) H2 := st2.sub fun b y => y.imp .inl id
        obtain ⟨a, vs, e3, t, ma, l, ⟨A3, rr⟩, up⟩ := en2.updD (B := B1) e2 st3 fun b y z => dj2' b (.inl y) z
        rw [e1] at e3
        cases e3
        have k1 := PK.of l (rr.lf l1)
        have qd := (q.move fr kb fun _ y => y).lf l2
        obtain ⟨s, en'⟩ := up _ _ (k1.put k' qd)
        have h1000 : (1000 : Nat) ≤ sizeLine := by rw [PySem.sizeLine_eq]; omega
        have ev := keyD_rep ek q2
        subst ev
        refine ⟨a, _, rfl, DPut.k t (by rw [← k1.len]; omega), ?_⟩
        have s2 : Step F2 (un (un A2 B2) B1) H2 F2 (un A2 B1) H2 := (Step.refl st2).sub fun b y => y.imp .inl id
        exact p2 σ _ F2 (un A2 B1) (s2.trans s) en'
      · exact p2.elim
    · exact p2.elim
  · exact po.elim⟩
end
end T
end

section
set_option Elab.async false
set_option linter.all false
set_option maxRecDepth 100000
set_option maxHeartbeats 4000000
/-! ### tuple(a dict) -/
namespace TD
open PySem PySem.W PyProof.Rows
open Sem (wp)
open AutoSeq1 (wpAny_loadPart')
theorem meets_tuple_new_dict (d : Addr) (es : Array DictEntry) (ep : Nat) (lo : (d == sysModules) = false) :
    Meets (Builtin.«tuple.__new__» ⟨[.type "tuple", .ref d], []⟩)
      (fun A R s => A.handled = none ∧ s.heap.DictRaw d es ep ∧ es.size ≤ sizeLine ∧ ∀ (h' : Heap) (tk : Nat) (acc : Array Value), (∀ b o, s.heap.get? b = some o → h'.get? b = some o) → ItemsOf (fun i v => ∃ hi : i < es.size, v = es[i].key) acc es.size →
        R (.ok (.ret (.ref h'.objs.size))) { s with heap := h'.push { cls := .type "tuple", data := .seq acc }, toks := tk }) :=
  .of_wp fun prog w A R s h => by
    obtain ⟨hh, hd, hsz, h⟩ := h
    have hsub := sub_tuple_self
    have hinit := init_tuple_lookup
    have hmh := madeHere_tuple
    have hT : s.TypeIs (.ref d) "dict" := hd.typeIs
    have hh1 : A.in1.handled = none := hh
    wp_walk using wpAny_typeOf hT, kdu_collect (KdlSrc.rawDict lo) hh1 hd hsz
    intro h' tk acc hk hacc
    show wpAny _ _ (Builtin.Tuple.tupleExact acc.toList.toArray >>= fun v => ret v) _ _ _
    unfold Builtin.Tuple.tupleExact
    refine wpAny_bind (wpAny_newObj_type ?_ (show acc.toList.toArray.size ≤ sizeLine by simp only [Array.toArray_toList]; rw [hacc.1]; exact hsz))
    refine wpAny_pure ⟨_, rfl, ?_⟩
    have e : acc.toList.toArray = acc := by simp
    rw [e]
    exact h h' tk acc hk hacc
section
variable {prog : Program} {w : World} {A : Around} {E : Value → Shared → Prop} {s : Shared}
theorem call_tuple_dict {Q : Value → Shared → Prop} {d : Addr} {es : Array DictEntry} {ep : Nat} (lo : (d == sysModules) = false) (hh : A.handled = none) (hd : s.heap.DictRaw d es ep) (hsz : es.size ≤ sizeLine)
    (h : ∀ (h' : Heap) (tk : Nat) (acc : Array Value), (∀ b o, s.heap.get? b = some o → h'.get? b = some o) → ItemsOf (fun i v => ∃ hi : i < es.size, v = es[i].key) acc es.size → Q (.ref h'.objs.size) { s with heap := h'.push { cls := .type "tuple", data := .seq acc }, toks := tk }) :
    wpAny (model prog w) A (call (.type "tuple") [.ref d]) Q E s := by
  refine callType_new F.called_tuple (by decide) (F.typeCall_tuple_1 _) (F.newCall_tuple_1 _) (fun obj => F.args_object_init_2 obj _) F.entry_tuple_new
    (meets_tuple_new_dict d es ep lo) ⟨hh, hd, hsz, fun h' tk acc hk hacc => ⟨⟨_, Heap.get?_push_size _ rfl, rfl⟩, h h' tk acc hk hacc⟩⟩
end
end TD
end

section
set_option Elab.async false
set_option linter.all false
set_option maxRecDepth 100000
set_option maxHeartbeats 4000000
namespace T
open PySem PySem.Spec PyProof.Rows L2
/-! ### tuple(NAME), NAME a dict of the module -/
theorem keys_str {P : Params} : ∀ {l : List DictEntry} {ks : List Str}, l.map He.keyOf = He.keysIn P ks → l.length = ks.length ∧ ∀ (i : Nat) (k : Str), ks[i]? = some k → ∃ (e : DictEntry) (t : Tok), l[i]? = some e ∧ e.key = Value.str k t
  | [], [], _ => ⟨rfl, fun i k h => by simp at h⟩
  | [], _ :: _, h => by cases h
  | _ :: _, [], h => by cases h
  | e :: l, k :: ks, h => by
    have h1 : He.keyOf e :: l.map He.keyOf = some (k, PyData.keyHash P k) :: He.keysIn P ks := h
    injection h1 with h2 h3
    obtain ⟨a, b⟩ := keys_str h3
    refine ⟨congrArg (· + 1) a, fun i k' hi => ?_⟩
    cases i with
    | zero =>
      have hk : k = k' := by simpa using hi
      subst hk
      unfold He.keyOf at h2
      split at h2
      · rename_i x t q
        obtain ⟨h5, h6⟩ := Prod.mk.inj (Option.some.inj h2)
        exact ⟨e, t, rfl, by rw [q, h5]⟩
      · cases h2
    | succ i => exact b i k' (by simpa using hi)
theorem vals_of : ∀ {ks : List Str} {us : List Value}, us.length = ks.length → (∀ (i : Nat) (k : Str), ks[i]? = some k → ∃ t, us[i]? = some (Value.str k t)) → Vals (ks.map V.str) us
  | [], [], _, _ => .nil
  | [], _ :: _, h, _ => by cases h
  | _ :: _, [], h, _ => by cases h
  | k :: ks, u :: us, h, f => by
    obtain ⟨t, e⟩ := f 0 k rfl
    have e : u = Value.str k t := by simpa using e
    exact .cons ⟨t, e⟩ (vals_of (Nat.succ.inj h) fun i k' hi => f (i + 1) k' (by simpa using hi))
def rTupK (d : Addr) (ks : List Str) : List V → Hp → VK → Prop := fun xs H Q => xs = [.ref d] ∧ ∀ l, H l = none → Q (.ref l) (upd H l (.tup (ks.map V.str)))
theorem call_tupleK {X : Cx} {d : Addr} {ks : List Str} (hc : X.calm = true) (h : He.dicW X.K d = some (He.keysIn X.w.params ks)) (hz : ks.length ≤ 1000) : CallR X (.type "tuple") (rTupK d ks) := by
  obtain ⟨es, n, KD⟩ := He.dicW_ok h
  have h' : es.toList.map He.keyOf = He.keysIn X.w.params ks := by
    have h := h
    unfold He.dicW at h
    rw [KD.at_] at h
    simp only at h
    split at h
    · exact Option.some.inj h
    · cases h
  obtain ⟨hl, hk⟩ := keys_str h'
  have hl : es.size = ks.length := by rw [← hl, Array.length_toList]
  have h1000 : (1000 : Nat) ≤ sizeLine := by rw [PySem.sizeLine_eq]; omega
  intro pins s σ H xs us Q I r hq
  obtain ⟨rfl, q⟩ := hq
  rw [Vals.ref1 r]
  have raw : s.heap.get? d = some ⟨.type "dict", none, .dict es n, #[]⟩ := I.kIn _ _ KD.at_
  refine TD.call_tuple_dict (es := es) (ep := n) KD.low (I.ok.hd hc) ⟨_, raw, ⟨rfl, rfl, rfl⟩, rfl⟩ (by omega) fun h' tk acc kp hacc => ?_
  have I1 : Inv X pins σ H { s with heap := h', toks := tk } := I.kept (t' := tk) kp
  have hv : Vals (ks.map V.str) acc.toList := by
    refine vals_of (by rw [Array.length_toList, hacc.1, hl]) fun i k hi => ?_
    obtain ⟨e, t, e1, e2⟩ := hk i k hi
    have hlt : i < es.size := by rw [hl]; exact (List.getElem?_eq_some_iff.mp hi).1
    have hA : i < acc.size := by rw [hacc.1]; exact hlt
    have ha : acc[i]? = some (acc[i]'hA) := Array.getElem?_eq_getElem hA
    obtain ⟨hi', hv⟩ := hacc.2 i _ ha
    refine ⟨t, ?_⟩
    rw [Array.getElem?_toList, ha, hv]
    have e3 : es[i] = e := by
      have : es.toList[i]? = some es[i] := by rw [Array.getElem?_toList]; exact Array.getElem?_eq_getElem hi'
      rw [e1] at this
      exact (Option.some.inj this).symm
    rw [e3, e2]
  have I2 : Inv X pins σ (upd H h'.objs.size (.tup (ks.map V.str))) { s with heap := h'.push { cls := .type "tuple", data := .seq acc }, toks := tk } :=
    I1.laid (t' := tk) (fun b o e => Heap.get?_push_of_some _ e) (Nat.le_refl _) (show ObjOk X.prog X.w _ _ _ (.tup (ks.map V.str)) from ⟨by rw [List.length_map]; omega, acc.toList, hv, by have := IsTup.new h' acc.toList.toArray; simpa using this⟩)
  exact ⟨.ref h'.objs.size, _, I2, rfl, q _ (I1.hok.fresh (Nat.le_refl _))⟩
def mTupK (ks : List Str) : Ro → R D := fun ρ => .ok (.tup (ks.map D.str)) ρ
theorem reps_strs {K : Frag} {cA : Cid → Addr} {F : FP} {H : Hp} : ∀ ks : List Str, Reps K cA F H (ks.map D.str) (ks.map V.str) no
  | [] => rfl
  | k :: ks => ⟨.str k, ks.map V.str, no, no, rfl, ⟨fun _ z => z, fun _ z => z, fun _ z => z.elim⟩, rfl, reps_strs ks⟩
section
variable {X : Cx} {L : Lc} {pos p px : Pos} {x : Str} {tb : List (Str × D)}
theorem de_tupK (kt : KTabOf X.K L.cA X.w X.mg x tb) (hc : X.calm = true) (hm : X.mg "tuple" = none) (hz : decide ((tb.map (·.1)).length ≤ 1000) = true := by rfl) (hgx : Gl X x := by rfl) (hd : (x == ("__debug__" : Str)) = false := by decide) (hg : Gl X "tuple" := by rfl) (he : starEach [.Name x px] X.env = (false, eval (.Name x px) X.env) :: starEach [] X.env := by rfl) (hpl : (backTo pos (starEach [] X.env)).any (·.1) = false := by rfl) :
    DE X L (.Call (.Name "tuple" p) [.Name x px] [] pos) (mTupK (tb.map (·.1))) := by
  obtain ⟨d, hmx, kt⟩ := kt
  refine ⟨pe_to (pe_callTy (call_tupleK hc kt.keys (of_decide_eq_true hz)) hg hm (by decide +kernel) (pa_cons (pe_glob (v := .ref d) hgx hmx rfl hd) pa_nil he) (by decide) (by decide) he hpl) fun σ H Q ⟨ρ, F, A, st, en, po⟩ => ?_⟩
  refine ⟨rfl, fun l np => ?_⟩
  have st1 : Sta F (un A no) H := st.sub fun b x => x.elim id False.elim
  exact end_tup st1 (fun b _ z => z.elim) en (reps_strs _) np (Post.step ((Step.refl st).sub fun b x => x.elim id False.elim) po)
end
end T
end

section
set_option Elab.async false
set_option linter.all false
set_option maxRecDepth 100000
set_option maxHeartbeats 4000000
namespace T
open PySem PySem.Spec PyProof.Rows L2
/-! ### x.split(), x.split(y) -/
def isS : D → Bool
  | .str _ => true
  | _ => false
def oWords : D → Ro → R D
  | .str x, ρ => if szOk (x.length + 2) then .ok (.lst true ((Txt.words x).map D.str)) ρ else .bad
  | _, _ => .bad
def oSplit : D → D → Ro → R D
  | .str x, .str y, ρ => if szOk (x.length + 2) && !(y.length == 0) then .ok (.lst true ((Txt.split x y).map D.str)) ρ else .bad
  | _, _, _ => .bad
section
variable {X : Cx} {L : Lc} {pos p apos : Pos} {o e : Expr} {ma mb m : Ro → R D}
theorem new_strs {K : Frag} {F A B : FP} {H : Hp} {σ : L2.St} {Q : VK} {ys : List Str} {ρ : Ro} (st : Sta F A H) (hs : ∀ b, B b → A b) (en : EnvL K L F H ρ σ B) (po : Post K L rE F A H σ Q (.ok (.lst true (ys.map D.str)) ρ)) : rNewStrs ys H Q := fun p np => by
  have s : Step F A H F (un B no) H := (Step.refl st).sub fun b x => x.elim (hs b) False.elim
  exact end_lst s.sta (fun b _ z => z.elim) en (reps_strs ys) np (Post.step s po)
theorem de_words (ho : DE X L o ma)
    (h1 : attributeBase o (Str.ofString "split") X.env (eval o X.env) = eval o X.env := by rfl) (h3 : (apos.endLine == pos.line) = true := by rfl) :
    DE X L (.Call (.Attribute o (Str.ofString "split") apos) [] [] pos) (m1 oWords ma) := by
  refine ⟨pe_to (pe_bm0 F.plainAttrs_str F.slot_str_split F.type_str_split mt_words ho.pe h1 h3) fun σ H Q h => ?_⟩
  refine lft_bind h fun v1 H1 F1 A1 B1 d1 ρ1 st1 dj1 en1 q1 p1 => ?_
  unfold oWords at p1
  split at p1
  · rename_i x
    split at p1
    · rename_i hz
      cases q1
      exact ⟨rfl, x, rfl, rfl, of_decide_eq_true hz, new_strs st1 (fun b x => .inl x) en1 p1⟩
    · exact p1.elim
  · exact p1.elim
theorem de_split (ho : DE X L o ma) (he : DE X L e mb)
    (h1 : attributeBase o (Str.ofString "split") X.env (eval o X.env) = eval o X.env := by rfl) (h2 : ((((backTo pos (starEach (e :: []) X.env)).all fun x => !x.1) && (backToKw pos (keywordEach [] X.env)).all fun x => x.1.isSome) && decide ((e :: []).length + ([] : List Keyword).length + (if ([] : List Keyword).isEmpty = true then 0 else 1) < 30)) = true := by rfl)
    (h3 : (apos.endLine == pos.line) = true := by rfl) (h4 : starEach (e :: []) X.env = (false, eval e X.env) :: starEach [] X.env := by rfl) (h5 : (backTo pos (starEach [] X.env)).any (·.1) = false := by rfl) :
    DE X L (.Call (.Attribute o (Str.ofString "split") apos) [e] [] pos) (mBm isS oSplit ma mb) := by
  refine ⟨pe_to (pe_bm F.plainAttrs_str F.slot_str_split F.type_str_split mt_split ho.pe (pa_cons he.pe pa_nil h4) h1 h2 h3 h4 h5) fun σ H Q h => ?_⟩
  refine lft_bind h fun v1 H1 F1 A1 B1 d1 ρ1 st1 dj1 en1 q1 p1 => ?_
  split at p1
  · rename_i hd
    match d1, hd, q1, p1 with
    | .str x, _, q1, p1 =>
      cases q1
      refine ⟨rfl, ?_⟩
      show lft X.K L rE mb σ H1 fun y H2 => _
      refine lft_rest st1 dj1 en1 p1 fun v2 H2 F2 A2 B2 d2 ρ2 st2 dj2 dj2' en2 q2 fr kb p2 => ?_
      unfold oSplit at p2
      split at p2
      · rename_i x' y ex
        cases ex
        split at p2
        · rename_i hc
          rw [Bool.and_eq_true] at hc
          cases q2
          exact ⟨x, y, rfl, rfl, by simpa using hc.2, of_decide_eq_true hc.1, new_strs st2 (fun b x => .inl (.inl x)) en2 p2⟩
        · exact p2.elim
      · exact p2.elim
  · exact p1.elim
end
end T
end

section
set_option Elab.async false
set_option linter.all false
set_option maxRecDepth 100000
set_option maxHeartbeats 4000000
namespace T
open PySem PySem.Spec PyProof.Rows L2
/-! ### {"a": x, "b": y} -/
structure DP (X : Cx) (L : Lc) (pos : Pos) (keys : List (Option Expr)) (values : List Expr) (ks : List Str) (ms : Ro → R (List D)) : Prop where
  ex : ∃ trs, PPs X pos keys values trs ∧ ∀ σ H Q, lft X.K L rA ms σ H (fun vs H' => Q ((ks.map V.str).zip vs) H') → tPairs trs σ H Q
section
variable {X : Cx} {L : Lc} {pos p : Pos} {keys : List (Option Expr)} {values : List Expr} {ks : List Str} {ms : Ro → R (List D)} {m : Ro → R D} {v : Expr} {k : Str} {kk : Nat}
theorem dp_nil : DP X L pos [] [] [] mNil := ⟨[], pps_nil, fun σ H Q ⟨ρ, F, A, st, en, p⟩ => p.val (A1 := A) (y := []) st (fun b x => x) en rfl⟩
theorem dp_cons (hv : DE X L v m) (hr : DP X L pos keys values ks ms) : DP X L pos (some (.Constant (.str k) kk p) :: keys) (v :: values) (k :: ks) (mCons m ms) := by
  obtain ⟨trs, h1, h2⟩ := hr.ex
  refine ⟨_, pps_cons pe_str hv.pe h1, fun σ H Q h => ?_⟩
  show lft X.K L rE m σ H fun y H2 => tPairs trs σ H2 fun ps H3 => Q ((.str k, y) :: ps) H3
  refine lft_bind h fun v H1 F1 A1 B1 d ρ1 st dj en q p => ?_
  refine h2 σ H1 _ ?_
  refine lft_rest st dj en p fun vs H2 F2 A2 B2 ds ρ2 st2 dj2 dj2' en2 q2 fr kb p2 => ?_
  refine p2.ret (A1 := A2) (B := un B1 B2) (y := v :: vs) st2 (fun b x => x.elim (fun x => .inl (.inl x)) fun x => x.elim .inr fun x => .inl (.inr x)) (fun b x y => y.elim (dj2' b (.inl x)) (dj2 b x)) en2 ?_
  exact ⟨v, vs, B1, B2, rfl, ⟨fun b x => .inl x, fun b x => .inr x, fun b x y => dj2' b (.inr y) x⟩, q.move fr kb fun _ x => x, q2⟩
def kdsD (ks : List Str) (ds : List D) : List (Key × D) := mergeD [] ((ks.map (Sum.inr : Str → Key)).zip (fzs ds))
def mDisp (ks : List Str) (ms : Ro → R (List D)) : Ro → R D := fun ρ => (ms ρ).bind fun ds ρ1 => if ks.length = ds.length then .ok (.dK true ((kdsD ks ds).map (·.1)) ((kdsD ks ds).map (·.2))) ρ1 else .bad
theorem zip_kV : ∀ (ks : List Str) (vs : List V), (ks.map V.str).zip vs = (((ks.map (Sum.inr : Str → Key)).zip vs).map fun kv => (kV kv.1, kv.2))
  | [], _ => rfl
  | _ :: _, [] => rfl
  | k :: ks, v :: vs => congrArg (_ :: ·) (zip_kV ks vs)
theorem de_disp (h : DP X L pos keys values ks ms) (hall : keys.all (·.isSome) = true := by rfl) (hl : keys.length = values.length := by rfl) (h0 : keys ≠ [] := by exact List.cons_ne_nil _ _) (h15 : decide (keys.length ≤ 15) = true := by rfl) (hk : decide (ks.length ≤ 15) = true := by rfl) :
    DE X L (.Dict keys values pos) (mDisp ks ms) := by
  obtain ⟨trs, h1, h2⟩ := h.ex
  refine ⟨pe_to (pe_disp h1 hall hl h0 (of_decide_eq_true h15)) fun σ H Q ⟨ρ, F, A, st, en, po⟩ p np => ?_⟩
  have st0 : Sta F (un A no) H := st.sub fun b x => x.elim id False.elim
  have s0 := new_step (o := .dK []) st0 np (fun _ z => nomatch z)
  have s1 : Step F A H F (un A (· = p)) (upd H p (.dK [])) := ⟨fun b o e n => s0.keep b o e fun x => x.elim n False.elim, s0.live, s0.fr, fun b x => (s0.fnew b x).imp id fun x => x.imp (fun x => x.elim id False.elim) id, fun b x => (s0.anew b (x.elim (fun x => .inl (.inl x)) .inr)).imp (fun x => x.elim id False.elim) id, s0.sta.sub fun b x => x.elim (fun x => .inl (.inl x)) .inr⟩
  have nA : Dj A (· = p) := fun b x z => st.dom b (.inr x) (by rw [z]; exact np)
  refine h2 σ _ _ ?_
  refine lft_rest s1.sta nA (en.move (fun _ x => x) (fun b o _ e => new_keep np b o e) fun _ x => x) (Post.step s1 po) fun vs H2 F2 A2 B2 ds ρ2 st2 dj2 dj2' en2 q2 fr kb p2 => ?_
  have hp : H2 p = some (.dK []) := kb p _ (.inr rfl) upd_same
  split at p2
  · rename_i hlen
    refine ⟨hp, (ks.map (Sum.inr : Str → Key)).zip vs, zip_kV ks vs, ?_, ?_⟩
    · rw [List.length_zip, List.length_map]
      exact Nat.le_trans (Nat.min_le_left _ _) (of_decide_eq_true hk)
    · have a0 : Step F2 (un (un A2 B2) (· = p)) H2 F2 (un (un A2 (· = p)) B2) H2 := (Step.refl st2).sub fun b x => x.elim (fun x => x.elim (fun x => .inl (.inl x)) .inr) fun x => .inl (.inr x)
      have a1 := frz_step a0.sta fun b x y => x.elim (fun x => dj2 b x y) fun x => dj2' b (.inr y) x
      have q3 := q2.fz (F' := un F2 B2) (fun b x => .inr x) (fun _ x => .inl x)
      have pk := (PK.of (ks := ks.map (Sum.inr : Str → Key)) (by rw [List.length_map, hlen, q2.len]) q3).merge (kds := []) .nil
      have a2 := upd_step (w := .dK (mergeK [] ((ks.map (Sum.inr : Str → Key)).zip vs))) a1.sta hp (.inr rfl) (fun _ z => nomatch z)
      obtain ⟨g1, g2, g3⟩ := pk.tree
      change _ = ((kdsD ks ds).map (·.1)).zip _ at g1
      have nF : ∀ b, un F2 B2 b → b ≠ p := fun b x z => a1.sta.dj b (.inr z) x
      have n2 : ∀ b, A2 b → b ≠ p := fun b x z => dj2' b (.inl x) z
      refine p2 _ _ (un F2 B2) A2 (· = p) ((a0.trans a1).trans a2) (fun b x y => n2 b x y) (en2.move (fun _ x => .inl x) (upd_keep fun b x => x.elim (fun x => nF b (.inl x)) (n2 b)) fun _ x => x) ?_
      exact ⟨p, _, no, rfl, by rw [← g1]; exact upd_same, g2, rfl, fun b x => x.elim, g3.move (fun _ x => x) (upd_keep fun b x => x.elim (nF b) fun x => x.elim) fun _ x => x⟩
  · exact p2.elim
end
end T
end

section
set_option Elab.async false
set_option linter.all false
set_option maxRecDepth 100000
set_option maxHeartbeats 4000000
namespace T
open PySem PySem.Spec PyProof.Rows L2
/-! ### sorted(d), d with one key at most -/
def strKeys : List Key → Option (List Str)
  | [] => some []
  | .inr x :: ks => (strKeys ks).map (x :: ·)
  | .inl _ :: _ => none
theorem strKeys_ok : ∀ {ks : List Key} {ss : List Str}, strKeys ks = some ss → ks = ss.map Sum.inr
  | [], _, h => by cases h; rfl
  | .inr x :: ks, _, h => by
    obtain ⟨r, h1, rfl⟩ := Option.map_eq_some_iff.mp h
    rw [List.map_cons, ← strKeys_ok h1]
  | .inl _ :: _, _, h => by cases h
def oSortD1 : List D → Ro → R D
  | [.dK _ ks ds], ρ => match strKeys ks with
    | some ss => if decide (ss.length ≤ 1) then .ok (.lst true (ss.map D.str)) ρ else .bad
    | none => .bad
  | _, _ => .bad
def rSortD1 : List V → Hp → VK → Prop := fun xs H Q => ∃ (a : Addr) (kvs : List (Key × V)) (ks : List Str), xs = [.ref a] ∧ Rd H a (.dK kvs) ∧ kvs.map (·.1) = ks.map Sum.inr ∧ ks.length < 64 ∧
    ∀ ys p, ys.Perm ks → sortedS ys = true → H p = none → Q (.ref p) (upd H p (.lst (ys.map V.str)))
section
variable {X : Cx} {L : Lc} {pos p : Pos} {e : Expr} {es : List Expr} {ms : Ro → R (List D)}
theorem on_sortD1 {K : Frag} : OpN K L rSortD1 oSortD1 := by
  intro F A B H σ Q ds vs ρ st dj en q p
  unfold oSortD1 at p
  split at p
  · rename_i o ks ds
    split at p
    · rename_i ss es
      split at p
      · rename_i hz
        have hz := of_decide_eq_true hz
        obtain ⟨v, vs', B1, B2, rfl, s, r, rs⟩ := q
        cases rs
        obtain ⟨a, ws, rfl, t, l, _, A', rr⟩ := r.dK
        refine ⟨a, _, ss, rfl, .inl t, ?_, by omega, fun ys p' hp _ np => ?_⟩
        · rw [← strKeys_ok es, List.map_fst_zip (Nat.le_of_eq l)]
        · have e : ys = ss := by
            match ss, hz, hp with
            | [], _, hp => exact hp.eq_nil
            | [x], _, hp => exact hp.eq_singleton
          subst e
          have s1 : Step F (un A B) H F (un A no) H := (Step.refl st).sub fun b x => x.elim .inl False.elim
          exact end_lst s1.sta (fun b _ z => z.elim) en (reps_strs ys) np (Post.step s1 p)
      · exact p.elim
    · exact p.elim
  · exact p.elim
theorem de_sortD1 (hc : X.calm = true) (hm : X.mg "sorted" = none) (ha : DA X L (e :: es) ms) (hg : Gl X "sorted" := by rfl) (he : starEach (e :: es) X.env = (false, eval e X.env) :: starEach es X.env := by rfl) (hpl : (backTo pos (starEach es X.env)).any (·.1) = false := by rfl) :
    DE X L (.Call (.Name "sorted" p) (e :: es) [] pos) (mN oSortD1 ms) := de_callB (call_sortedD hc) on_sortD1 hm PyProof.Rows.Boot.sorted ha hg (by decide) (by decide) he hpl
end
end T
end

section
set_option Elab.async false
set_option linter.all false
set_option maxRecDepth 100000
set_option maxHeartbeats 4000000
namespace L2
open PySem PySem.Spec PyProof.Rows
/-! ### a dict that is walked: locked from the iterator's making on -/
def iKeysL (X : Cx) (td : TE) : TI := fun σ H R => td σ H fun x H1 => ∃ d kvs, x = .ref d ∧ H1 d = some (.dK kvs) ∧ ∀ od, (∀ o' u', X.H_0 d ≠ some (.frz o' u')) → R (Itk d od kvs) (upd H1 d (.frz od (.dK kvs)))
def iItemsL (X : Cx) (td : TE) : TI := fun σ H R => td σ H fun x H1 => ∃ d kvs, x = .ref d ∧ H1 d = some (.dK kvs) ∧ ∀ od, (∀ o' u', X.H_0 d ≠ some (.frz o' u')) → R (Iti d od kvs) (upd H1 d (.frz od (.dK kvs)))
section
variable {X : Cx} {tg e : Expr} {td : TE} {apos cpos : Pos} {t : TE}
theorem pi_keysL (he : PE X e td) : PI X tg e (iKeysL X td) := by
  refine ⟨fun pins s σ H R I h => ?_⟩
  refine thn (he.run pins s σ H _ I h) fun u s1 ⟨x, H1, I1, rx, d, kvs, ex, hd, q⟩ => ?_
  subst ex
  obtain rfl : u = Value.ref d := rx
  obtain ⟨od, I2⟩ := I1.lock hd True.intro
  have q := q od (I1.nofrz hd True.intro)
  obtain ⟨hs, hgd, hx, es, ep, vs, hdt, hsz, kv, hm⟩ := I2.frzK (upd_same (H := H1) (a := d) (o := .frz od (.dK kvs)))
  refine iter_keys hs hgd hx hdt (pi_one (tk := s1.toks) I2 _ (turn_keys _ hdt) ⟨_, Heap.get?_push_size _ rfl, rfl, ?_⟩ q)
  rw [hsz] <;> rfl
theorem pi_itemsL {elts : List Expr} {kk : Nat} {tpos : Pos} (he : PE X e td) (hbase : attributeBase e "items" X.env (eval e X.env) = eval e X.env := by rfl) (hline : (apos.endLine == cpos.line) = true := by rfl) :
    PI X (.Tuple elts kk tpos) (.Call (.Attribute e "items" apos) [] [] cpos) (iItemsL X td) := by
  refine ⟨fun pins s σ H R I h => ?_⟩
  refine wpAny_Call_method (T := "dict") (id := "dict.items") hbase rfl hline F.plainAttrs_dict F.slot_dict_items F.type_dict_items (thn (he.run pins s σ H _ I h) fun u s1 ⟨x, H1, I1', rx, d, kvs, ex, hd0, q⟩ => ?_)
  subst ex
  obtain rfl : u = Value.ref d := rx
  obtain ⟨o, I1⟩ := I1'.lock hd0 True.intro
  have q := q o (I1'.nofrz hd0 True.intro)
  have hd : upd H1 d (.frz o (.dK kvs)) d = some (.frz o (.dK kvs)) := upd_same
  obtain ⟨hs, hgd, hx, es, ep, vs, hdt, hsz, kv, hm⟩ := I1.frzK hd
  have hl : kvs.length = vs.length := Paired.length kv
  refine ⟨hm.dictOf.typeIs, hm.dictOf.mapOf.noDict, ?_⟩
  have I2 : Inv X pins σ (upd H1 d (.frz o (.dK kvs))) { s1 with heap := s1.heap.push { cls := .type "dict_items", data := .fields #[.ref d] } } := I1.kept (t' := s1.toks) fun b ob q => Heap.get?_push_of_some _ q
  have fin : wpAny (model X.prog X.w) X.A (pyIter (.ref s1.heap.objs.size)) (PIE X pins σ (.Tuple elts kk tpos) R) X.xe { s1 with heap := s1.heap.push { cls := .type "dict_items", data := .fields #[.ref d] } } := by
    refine wpAny_pyIter_items (d := d) (knd := mixKind X.prog X.w) ⟨_, Heap.get?_push_size _ rfl, rfl, rfl⟩ (hm.push _) (pi_one (tk := s1.toks) I2 _ (turn_items _ hdt) ⟨.none, .none, ?_⟩ q)
    rw [hl]
    exact Heap.get?_push_size _ rfl
  show wpAny _ _ (callWith cpos (.builtin "dict.items") [.ref d] [] []) _ X.xe s1
  exact method_meetsIn F.slot_dict_items F.entry_dict_items rfl (PySem.evalArgs_none ⟨rfl, hm.dictOf.typeIs, F.args_dict_items_1 _, _, meets_dict_items (mixKind X.prog X.w) d hs, ⟨vs, hm.dictOf⟩, fin⟩)
/-- the lock goes at the end -/
theorem pe_unlock (h : PE X e t) : PE X e (fun σ H Q => t σ H fun x H' => ∃ d od u, H' d = some (.frz od u) ∧ (∀ o' u', X.H_0 d ≠ some (.frz o' u')) ∧ Q x (upd H' d u)) := by
  refine ⟨fun pins s σ H Q I hw => ?_⟩
  refine thn (h.run pins s σ H _ I hw) fun v s1 ⟨x, H1, I2, r, d, od, u, e2, hn, q⟩ => ?_
  exact ⟨x, _, I2.unlock e2 hn, r, q⟩
end
end L2
namespace T
open PySem PySem.Spec PyProof.Rows L2
theorem upd_back {H : Hp} {d D : Addr} {u w o : HO} (h : H d = some u) (n : D ≠ d) : upd (upd (upd H d o) D w) d u = upd H D w := by
  funext b
  by_cases e : b = d
  · subst e
    rw [upd_same, upd_ne (fun z => n z.symm), h]
  · rw [upd_ne e]
    by_cases e2 : b = D
    · subst e2
      rw [upd_same, upd_same]
    · rw [upd_ne e2, upd_ne e, upd_ne e2]
/-- [.. for k in d] of an empty dict -/
def mLcK0 (m : Ro → R D) : Ro → R D := fun ρ => (m ρ).bind fun d ρ1 => match d with
  | .dK false [] [] => .ok (.lst true []) ρ1
  | _ => .bad
section
variable {X : Cx} {L : Lc} {pos p apos cpos tpos : Pos} {tg e elt : Expr} {elts ifs : List Expr} {scope : Scope} {own : List (Str × Nat)} {m : Ro → R D} {g : D → Ro → Option Ro} {tt : Ro → R Bool} {te : Ro → R D} {kk : Nat}
theorem lc_empty {gT : TG} {ttT : TT} {teT : TE} {vs : List Nat} {J : Addr → Obj → It} (hJ : ∀ d od i H, (J d od).stop i H ↔ H d = some (.frz od (.dK [])) ∧ 0 ≤ i) (wi : TI)
    (hw : ∀ σ H R, (lft X.K L rE m σ H fun x H1 => ∃ d, x = .ref d ∧ H1 d = some (.dK []) ∧ ∀ od, (∀ o' u', X.H_0 d ≠ some (.frz o' u')) → R (J d od) (upd H1 d (.frz od (.dK [])))) → wi σ H R) :
    ∀ σ H Q, lft X.K L rE (mLcK0 m) σ H Q → tLc wi gT ttT teT vs σ H fun x H' => ∃ d od u, H' d = some (.frz od u) ∧ (∀ o' u', X.H_0 d ≠ some (.frz o' u')) ∧ Q x (upd H' d u) := by
  intro σ H Q h
  refine hw σ H _ ?_
  refine lft_bind h fun v1 H1 F1 A1 B1 d1 ρ1 st1 dj1 en1 q1 p1 => ?_
  split at p1
  · obtain ⟨a, vs, rfl, t, l, f, r⟩ := q1
    have t : H1 a = some (.dK []) := t
    refine ⟨a, rfl, t, fun od hn D hD => ?_⟩
    have nD : D ≠ a := fun z => by rw [z, upd_same] at hD; cases hD
    have np : H1 D = none := by rw [upd_ne nD] at hD; exact hD
    refine ⟨fun i mm H => i = 0 ∧ mm = 0 ∧ H = upd (upd H1 a (.frz od (.dK []))) D (.lst []), ⟨0, rfl, rfl, rfl⟩, fun i mm H2 ⟨e1, e2, e3⟩ => .inl ⟨(hJ a od i H2).mpr ⟨?_, Nat.zero_le _⟩, a, od, .dK [], ?_, hn, ?_⟩⟩
    · rw [e3, upd_ne (fun z => nD z.symm), upd_same]
    · rw [e3, upd_ne (fun z => nD z.symm), upd_same]
    · rw [e3, upd_back t nD]
      have s1 : Step F1 (un A1 B1) H1 F1 (un A1 no) H1 := (Step.refl st1).sub fun b x => x.elim .inl False.elim
      exact end_lst (ds := []) (vs := []) s1.sta (fun b _ z => z.elim) en1 rfl np (Post.step s1 p1)
  · exact p1.elim
theorem de_lcK0 (hc : X.calm = true) (hN : X.N.Nodup) (hi : DE X L e m) (ok : blkC X.N X.env.scope scope own = true)
    (hg : ∀ (s : Shared) (H : Hp) (C : Addr) (cl : List (Str × Addr)) (fp : List Addr), DG (X.blk s H scope (compEnvC scope cl C X.env) fp) L.blk tg (own.map (·.2)) g) (ht : ∀ (s : Shared) (H : Hp) (C : Addr) (cl : List (Str × Addr)) (fp : List Addr), DTs (X.blk s H scope (compEnvC scope cl C X.env) fp) L.blk ifs tt)
    (he : ∀ (s : Shared) (H : Hp) (C : Addr) (cl : List (Str × Addr)) (fp : List Addr), DE (X.blk s H scope (compEnvC scope cl C X.env) fp) L.blk elt te) (hs : ∀ x, foldedSetIterable e X.env x = pure x := by intro _; rfl) :
    DE X L (.ListComp elt [⟨tg, e, ifs, 0⟩] scope pos) (mLcK0 m) :=
  ⟨pe_to (pe_unlock (pe_lc (te := lft X.K L.blk rE te) (tt := lft X.K L.blk rT tt) (g := lftG X.K L.blk (own.map (·.2)) g) hc hN (pi_keysL hi.pe) (blkOk_by ok) (fun s H C cl fp => (hg s H C cl fp).pg) (fun s H C cl fp => (ht s H C cl fp).pt) (fun s H C cl fp => (he s H C cl fp).pe) hs))
    (lc_empty (J := fun d od => Itk d od []) (fun d od i H => Iff.rfl) _ fun σ H R h => by
      obtain ⟨ρ, F, A, st, en, po⟩ := h
      refine ⟨ρ, F, A, st, en, ?_⟩
      cases er : m ρ with
      | bad => rw [er] at po; exact po
      | exc x ρ1 => rw [er] at po; exact po
      | ok d ρ1 =>
        rw [er] at po
        intro y H' F' A' B s dj en' q
        obtain ⟨d, e1, e2, e3⟩ := po y H' F' A' B s dj en' q
        exact ⟨d, [], e1, e2, e3⟩)⟩
theorem de_lcI0 (hc : X.calm = true) (hN : X.N.Nodup) (hi : DE X L e m) (ok : blkC X.N X.env.scope scope own = true)
    (hg : ∀ (s : Shared) (H : Hp) (C : Addr) (cl : List (Str × Addr)) (fp : List Addr), DG (X.blk s H scope (compEnvC scope cl C X.env) fp) L.blk (.Tuple elts kk tpos) (own.map (·.2)) g) (ht : ∀ (s : Shared) (H : Hp) (C : Addr) (cl : List (Str × Addr)) (fp : List Addr), DTs (X.blk s H scope (compEnvC scope cl C X.env) fp) L.blk ifs tt)
    (he : ∀ (s : Shared) (H : Hp) (C : Addr) (cl : List (Str × Addr)) (fp : List Addr), DE (X.blk s H scope (compEnvC scope cl C X.env) fp) L.blk elt te)
    (hbase : attributeBase e (Str.ofString "items") X.env (eval e X.env) = eval e X.env := by rfl) (hline : (apos.endLine == cpos.line) = true := by rfl) (hs : ∀ x, foldedSetIterable (.Call (.Attribute e (Str.ofString "items") apos) [] [] cpos) X.env x = pure x := by intro _; rfl) :
    DE X L (.ListComp elt [⟨.Tuple elts kk tpos, .Call (.Attribute e (Str.ofString "items") apos) [] [] cpos, ifs, 0⟩] scope pos) (mLcK0 m) :=
  ⟨pe_to (pe_unlock (pe_lc (te := lft X.K L.blk rE te) (tt := lft X.K L.blk rT tt) (g := lftG X.K L.blk (own.map (·.2)) g) hc hN (pi_itemsL hi.pe hbase hline) (blkOk_by ok) (fun s H C cl fp => (hg s H C cl fp).pg) (fun s H C cl fp => (ht s H C cl fp).pt) (fun s H C cl fp => (he s H C cl fp).pe) hs))
    (lc_empty (J := fun d od => Iti d od []) (fun d od i H => Iff.rfl) _ fun σ H R h => by
      obtain ⟨ρ, F, A, st, en, po⟩ := h
      refine ⟨ρ, F, A, st, en, ?_⟩
      cases er : m ρ with
      | bad => rw [er] at po; exact po
      | exc x ρ1 => rw [er] at po; exact po
      | ok d ρ1 =>
        rw [er] at po
        intro y H' F' A' B s dj en' q
        obtain ⟨d, e1, e2, e3⟩ := po y H' F' A' B s dj en' q
        exact ⟨d, [], e1, e2, e3⟩)⟩
end
end T
end

section
set_option Elab.async false
set_option linter.all false
set_option maxRecDepth 100000
set_option maxHeartbeats 4000000
/-! ### enumerate(a tuple) -/
namespace TEn
open PySem PyProof.Rows
open Sem (wp)
open AutoSeq1 (wpAny_loadPart')
theorem meets_enumerate_newT (l : Addr) (items : Array Value) (n : Nat) (dct : Option Addr) (sl : Array (Option Value)) :
    Meets (Builtin.«enumerate.__new__» ⟨[.type "enumerate", .ref l], []⟩) (fun _ R s => s.heap.get? l = some { cls := .type "tuple", dict := dct, data := .seq items n, slots := sl } ∧
      R (.ok (.ret (.ref (s.heap.push { cls := .type "tuple_iterator", data := .fields #[.ref l, .int 0 0] }).objs.size)))
        { s with heap := (s.heap.push { cls := .type "tuple_iterator", data := .fields #[.ref l, .int 0 0] }).push { cls := .type "enumerate", data := .fields #[.none, .bool false, .ref s.heap.objs.size, rawInt 0, .none, .none] } }) :=
  .of_wp fun prog w A R s h => by
    obtain ⟨hp, g, d, tk, os⟩ := s; obtain ⟨hl, h⟩ := h
    have hsub := sub_enumerate
    have hL : Heap.IsTuple (Shared.heap ⟨hp, g, d, tk, os⟩) l items := ⟨_, hl, rfl, n, rfl⟩
    wp_walk using wpAny_loadPart' hl
    refine wpAny_stack_any fun st => wpAny_pure ?_
    split
    · rename_i c _ _ _ _ _
      cases (c == Value.type "enumerate")
      · wp_walk using wpAny_loadPart' hl, wpAny_pyIter_tuple hL
        exact ⟨_, rfl, h⟩
      · wp_walk using wpAny_loadPart' hl, wpAny_pyIter_tuple hL
        exact ⟨_, rfl, h⟩
    · wp_walk using wpAny_loadPart' hl, wpAny_pyIter_tuple hL
      exact ⟨_, rfl, h⟩
section
variable {prog : Program} {w : World} {A : Around} {E : Value → Shared → Prop} {s : Shared}
theorem call_enumerate_tuple {l : Addr} {items : Array Value} {Q : Value → Shared → Prop} (hL : s.heap.IsTuple l items)
    (h : ∀ h', IsEnum h' (s.heap.objs.size + 1) s.heap.objs.size 0 .none → h'.IsTupleIter s.heap.objs.size l 0 → h'.objs.size = s.heap.objs.size + 2 →
      (∀ b o, s.heap.get? b = some o → h'.get? b = some o) → Q (.ref (s.heap.objs.size + 1)) { s with heap := h' }) :
    wpAny (model prog w) A (call (.type "enumerate") [.ref l]) Q E s := by
  obtain ⟨⟨c, dct, dt, sl⟩, hl, hc, n, hd⟩ := hL
  replace hc : c = .type "tuple" := hc
  replace hd : dt = .seq items n := hd
  subst hc hd
  refine callType_new F.called_enumerate (by decide) (F.typeCall_enumerate_1 _) (F.newCall_enumerate_1 _) (fun obj => F.args_object_init_2 obj _) F.entry_enumerate_new
    (meets_enumerate_newT l items n dct sl) ⟨hl, ?_⟩
  have hz : (s.heap.push { cls := .type "tuple_iterator", data := .fields #[.ref l, .int 0 0] }).objs.size = s.heap.objs.size + 1 := Heap.size_push ..
  show _ ∧ _
  rw [hz]
  have he : IsEnum ((s.heap.push { cls := .type "tuple_iterator", data := .fields #[.ref l, .int 0 0] }).push
      { cls := .type "enumerate", data := .fields #[.none, .bool false, .ref s.heap.objs.size, rawInt 0, .none, .none] }) (s.heap.objs.size + 1) s.heap.objs.size 0 .none := by
    have := Heap.get?_push_size (s.heap.push { cls := .type "tuple_iterator", data := .fields #[.ref l, .int 0 0] })
      (o := { cls := .type "enumerate", data := .fields #[.none, .bool false, .ref s.heap.objs.size, rawInt 0, .none, .none] }) rfl
    rw [hz] at this; exact this
  refine ⟨⟨_, he, rfl⟩, h _ he ⟨_, Heap.get?_push_of_some _ (Heap.get?_push_size _ rfl), rfl, rfl⟩ (by rw [Heap.size_push, hz]) fun b o x => Heap.get?_push_of_some _ (Heap.get?_push_of_some _ x)⟩
end
end TEn
end

section
set_option Elab.async false
set_option linter.all false
set_option maxRecDepth 100000
set_option maxHeartbeats 4000000
namespace L2
open PySem PySem.Spec PyProof.Rows
theorem draws_end {prog : Program} {w : World} {A : Around} (hh : A.handled = none) (it t : Addr) (items : Array Value) (i : Nat) (hi : items[i]? = none) :
    Draws prog w A it [it, t] i (fun _ _ => False) (fun j h => j = i ∧ h.IsTupleIter it t i ∧ h.IsTuple t items) where
  live := fun _ _ st => let ⟨o, ho, _⟩ := st.2.1; ⟨o, ho⟩
  frame := fun _ _ _ st hk => ⟨st.1, st.2.1.at fun o e => hk it (by simp) o e, st.2.2.at fun o e => hk t (by simp) o e⟩
  item := fun j s Q E hj st hQ => absurd st.1 (Nat.ne_of_lt hj)
  done := fun s Q E st hE => wpAny_nextOf_tuple_end hh st.2.1 st.2.2 hi hE
/-- the tuple at a as it stands at each turn, each item in a new pair -/
def Itet (K : PySem.W.Frag) (a : Addr) : It :=
  ⟨fun i H => ∃ (xs : List V) (x : V), SqT K H a xs ∧ xs[i]? = some x, fun i H v H' => ∃ T x, v = .ref T ∧ H T = none ∧ H' = upd H T (.tup [.int (i : Nat), x]) ∧ ∀ xs, SqT K H a xs → xs[i]? = some x, fun i H => ∃ xs : List V, SqT K H a xs ∧ xs.length ≤ i⟩
theorem turn_enumT {P : Program} {w : World} {K : PySem.W.Frag} {elts : List Expr} {kk : Nat} {tpos : Pos} (a e it : Addr) (hai : a ≠ it) (hae : a ≠ e) :
    Turn P w K (.Tuple elts kk tpos) (Itet K a) [e, it] e (fun i h => (∃ old, IsEnum h e it ((i : Nat) : Int) old) ∧ h.IsTupleIter it a i ∧ e ≠ it) where
  mem := by simp
  obj := fun i h st b hb => by
    obtain ⟨⟨old, he⟩, ⟨o, ho, hc, hd⟩, _⟩ := st
    have e' : b = e ∨ b = it := by simpa using hb
    rcases e' with z | z
    · rw [z]; exact ⟨_, he, fun v q => nomatch q⟩
    · rw [z]; exact ⟨o, ho, fun v q => by rw [hd] at q; cases q⟩
  keep := fun i h h' st k => let ⟨⟨old, he⟩, hi, hne⟩ := st; ⟨⟨old, k e (by simp) _ he⟩, hi.at fun o q => k it (by simp) o q, hne⟩
  item := by
    intro X hP hw hK hc i pins s σ H E I hf st hg
    subst hP hw hK
    obtain ⟨⟨old, he⟩, hit, hne⟩ := st
    obtain ⟨xs, x, hq, hx⟩ := hg
    obtain ⟨its, rv, p, hz⟩ := I.tuple hq
    obtain ⟨u, hu, ru⟩ := rv.get hx
    have hel : e < s.heap.objs.size := Heap.lt_size he
    have hil : it < s.heap.objs.size := by obtain ⟨_, q, _⟩ := hit; exact Heap.lt_size q
    have hlt : i < its.toArray.size := by rw [List.size_toArray]; exact (List.getElem?_eq_some_iff.mp hu).1
    refine wpAny_pyNext_enum_itemD (Draws.tuple (A := X.A.in1) (I.ok.hd hc) it a hai its.toArray) he ⟨hit, p⟩ hlt hne (by simp [hne, Ne.symm hae]) fun u' h' tk hu' ho hit' hT hsz hk => ?_
    have eu : u' = u := by
      have q1 : its[i]? = some u' := by simpa using hu'
      rw [hu] at q1
      exact (Option.some.inj q1).symm
    subst eu
    refine ⟨_, rfl, wpAny_letOwnedTupleGo_enum (s := { s with heap := h', toks := tk + 1 }) ho fun h'' he' sb => ?_⟩
    have hT2 : h''.get? s.heap.objs.size = some { cls := .type "tuple", data := .seq #[.int i tk, u'] } := (sb.2 _ (Nat.ne_of_gt hel)).trans hT
    have new : ObjOk X.prog X.w (upd H s.heap.objs.size (.tup [.int (i : Nat), x])) h'' s.heap.objs.size (.tup [.int (i : Nat), x]) :=
      ⟨by show 2 ≤ sizeLine; decide, [.int i tk, u'], .cons ⟨_, rfl⟩ (.cons ru .nil), ⟨_, hT2, rfl, _, rfl⟩⟩
    have I1 : Inv X pins σ (upd H s.heap.objs.size (.tup [.int (i : Nat), x])) { s with heap := h'', toks := tk + 1 } :=
      I.turnedNew (ch := [e, it]) (fun b ob hb q => (sb.2 b (fun z => hb (by simp [z]))).trans (hk b ob (fun z => hb (by simp [z])) (fun z => hb (by simp [z])) q)) hf (Nat.le_refl _) new
    refine ⟨.ref s.heap.objs.size, _, I1, rfl, ⟨_, x, rfl, I.hok.fresh (Nat.le_refl _), rfl, fun ys hy => by rw [I.tuple_inj hy hq]; exact hx⟩, ⟨⟨u', ?_⟩, hit'.1.at fun o q => (sb.2 it (Ne.symm hne)).trans q, hne⟩, fun b hb => ?_⟩
    · have e1 : ((i + 1 : Nat) : Int) = (i : Int) + 1 := by omega
      rw [e1]; exact he'
    · have hb' : b < s.heap.objs.size := by
        have e' : b = e ∨ b = it := by simpa using hb
        rcases e' with z | z
        · rw [z]; exact hel
        · rw [z]; exact hil
      rw [upd_ne (Nat.ne_of_lt hb')]
      exact (hf b hb).1
  done := by
    intro X hP hw hK hc i pins s σ H E I hf st hg
    subst hP hw hK
    obtain ⟨⟨old, he⟩, hit, hne⟩ := st
    obtain ⟨xs, hq, hx⟩ := hg
    obtain ⟨its, rv, p, hz⟩ := I.tuple hq
    obtain ⟨f0, f1, f2, f3, f4, f5⟩ := hf it (by simp)
    have hl := rv.length
    exact wpAny_pyNext_enum_endD (draws_end (A := X.A.in1) (I.ok.hd hc) it a its.toArray i (Array.getElem?_eq_none (by rw [List.size_toArray]; omega))) he ⟨rfl, hit, p⟩ fun h' eb => ⟨rfl, I.turned (t' := s.toks) (fun b o hb q => eb b o hb q) f0 f1 f3 f4 f5⟩
  self := fun A i s Q E st h => let ⟨⟨_, he⟩, _⟩ := st; wpAny_pyIter_enum he h
def iEnumT (K : PySem.W.Frag) (ta : TA) : TI := fun σ H R => ta σ H fun vs H1 => ∃ a xs, vs = [.ref a] ∧ SqT K H1 a xs ∧ R (Itet K a) H1
theorem pi_enumT {X : Cx} {e : Expr} {ta : TA} {p pos tpos : Pos} {elts : List Expr} {kk : Nat} (hg : Gl X "enumerate") (hm : X.mg "enumerate" = none) (ha : PA X [e] ta) (hs : starEach [e] X.env = [(false, eval e X.env)] := by rfl) :
    PI X (.Tuple elts kk tpos) (.Call (.Name "enumerate" p) [e] [] pos) (iEnumT X.K ta) := by
  refine ⟨fun pins s σ H R I h => ?_⟩
  refine Call_ (ld_blt I hg hm boot_enumerate (PyProof.Rows.callWith_type1 (thn (ha.run pos pins s σ H _ I h) fun us s1 ⟨vs, H1, I1, r1, q1⟩ => ?_) hs rfl))
  obtain ⟨a, xs, ex, hq, q⟩ := q1
  subst ex
  cases r1 with
  | cons r rr =>
    cases rr
    cases r
    obtain ⟨its, rv, p', hz⟩ := I1.tuple hq
    have hal : a < s1.heap.objs.size := by obtain ⟨o, ho, _⟩ := p'; exact Heap.lt_size ho
    refine TEn.call_enumerate_tuple p' fun h' he hit hsz hk => wpAny_pyIter_enum he ?_
    have I2 : Inv X pins σ H1 { s1 with heap := h' } := I1.kept (t' := s1.toks) hk
    refine ⟨s1.heap.objs.size + 1, [s1.heap.objs.size + 1, s1.heap.objs.size], _, _, H1, rfl, I2, turn_enumT a (s1.heap.objs.size + 1) s1.heap.objs.size (Nat.ne_of_lt hal) (Nat.ne_of_lt (Nat.lt_succ_of_lt hal)), ⟨⟨.none, he⟩, hit, Nat.succ_ne_self _⟩, fun b hb => ?_, q⟩
    have e' : b = s1.heap.objs.size + 1 ∨ b = s1.heap.objs.size := by simpa using hb
    have hle : s1.heap.objs.size ≤ b := by
      rcases e' with z | z
      · rw [z]; exact Nat.le_add_right _ _
      · rw [z]; exact Nat.le_refl _
    exact I1.fpOk hle (I1.hok.fresh hle)
end L2
end

section
set_option Elab.async false
set_option linter.all false
set_option maxRecDepth 100000
set_option maxHeartbeats 4000000
namespace T
open PySem PySem.Spec PyProof.Rows L2
section
variable {K : Frag} {cA : Cid → Addr} {F : FP} {H0 : Hp}
theorem runs_enumT {a : Addr} {as : List D} (ra : Rep K cA F H0 (.tup as) (.ref a) no) : Runs K cA F H0 (Itet K a) (enumD 0 as) := by
  refine ⟨fun i d H F1 A1 hd st f k => ?_, fun i H F1 A1 hl st f k => ?_⟩
  · obtain ⟨da, ea, rfl⟩ := enumD_get hd
    obtain ⟨vs, sa, r1⟩ := tup_at ra f k
    obtain ⟨v, A2, e1, z1, q1⟩ := r1.get ea
    refine ⟨⟨vs, v, sa, e1⟩, fun x H' ⟨T, y1, ex, nT, eH, g1⟩ => ?_⟩
    have g1 := g1 vs sa
    rw [e1] at g1
    cases g1
    subst ex
    subst eH
    exact tup_turn st nT (Reps.two (by rw [Nat.zero_add]; rfl) (q1.move (fun _ y => y) (fun _ _ _ e => e) z1))
  · obtain ⟨vs, sa, r1⟩ := tup_at ra f k
    exact ⟨vs, sa, by rw [← r1.len, ← enumD_len (n := 0)]; exact hl⟩
end
/-- enumerate of a tuple -/
def oEnumT : List D → Ro → R (List D)
  | [.tup as], ρ => .ok (enumD 0 (fzs as)) ρ
  | _, _ => .bad
section
variable {X : Cx} {L : Lc} {pos p tpos : Pos} {tg e : Expr} {elts : List Expr} {kk : Nat} {ms : Ro → R (List D)}
theorem di_enumT (ha : DA X L [e] ms) (hm : X.mg "enumerate" = none) (hg : Gl X "enumerate" := by rfl) (h1 : starEach [e] X.env = [(false, eval e X.env)] := by rfl) : DI X L (.Tuple elts kk tpos) (.Call (.Name "enumerate" p) [e] [] pos) (fun ρ => (ms ρ).bind oEnumT) := ⟨pi_to (pi_enumT hg hm ha.pa h1) fun σ H Q ⟨ρ, F, A, st, en, po⟩ => by
  refine ⟨ρ, F, A, st, en, ?_⟩
  have po : PostI X.K L F A H σ Q ((ms ρ).bind oEnumT) := po
  cases er : ms ρ with
  | bad => rw [er] at po; exact po
  | exc x ρ1 => rw [er] at po; exact po
  | ok a ρ1 =>
    rw [er] at po
    intro vs H1 F1 A1 B1 s dj en1 q
    have po : PostI X.K L F A H σ Q (oEnumT a ρ1) := po
    unfold oEnumT at po
    split at po
    · obtain ⟨v1, _, _, _, rfl, s1, r1, rfl⟩ := q
      have q1 := r1.fz (F' := un F1 B1) (fun b x => .inr (s1.l b x)) (fun _ x => .inl x)
      obtain ⟨a1, us1, rfl, t1, _⟩ := id q1
      exact ⟨a1, us1, rfl, t1.sq, fin_it s dj en1 po (runs_enumT q1)⟩
    · exact po.elim⟩
end
end T
end

section
set_option Elab.async false
set_option linter.all false
namespace T
open PySem PySem.Spec PyProof.Rows L2
/-! ### one default that is None -/
theorem vals_nones : Vals [V.non] [Value.none] := .cons rfl .nil
theorem dfl_nones {K : Frag} {cA : Cid → Addr} : Dfl K cA [.non] [.non] := fun _ _ => ⟨.non, [], no, no, rfl, ⟨fun _ z => z, fun _ z => z, fun _ z => z.elim⟩, rfl, rfl⟩
end T
end

section
set_option Elab.async false
set_option linter.all false
set_option maxRecDepth 100000
set_option maxHeartbeats 4000000
namespace T
open PySem PySem.Spec PyProof.Rows L2
/-! ### a, b = a list -/
def gUnlD (n : Nat) (gs : List D → Ro → Option Ro) : D → Ro → Option Ro := fun d ρ => match d with
  | .lst _ ds => if ds.length = n then gs ds ρ else none
  | _ => none
section
variable {X : Cx} {L : Lc} {pos : Pos} {gs : List D → Ro → Option Ro}
theorem dg_unl {es : List Expr} {sl : List Nat} {k : Nat} {n : Nat} (hc : X.calm = true) (h : DGs X L es sl gs) (hn : (assignEach es X.env).length = n := by rfl) (hst : (assignEach es X.env).findIdx? (·.1) = none := by rfl) : DG X L (.Tuple es k pos) sl (gUnlD n gs) :=
  ⟨pg_to (pg_unl hc h.pg hn hst) fun v σ H Q ⟨ρ, F, A, B, d, st, dj, en, r, p⟩ => by
    cases d <;> first | exact p.elim | skip
    rename_i o ds
    obtain ⟨a, vs, A', rfl, t, s, rs⟩ := r.lst
    have p : PostG X.K L sl σ F (un A B) H Q (if ds.length = n then gs ds ρ else none) := p
    by_cases hl : ds.length = n
    · rw [if_pos hl] at p
      have st2 : Sta F (un A A') H := st.sub fun b x => x.imp id (s b)
      refine ⟨a, vs, rfl, .inl t, by rw [← rs.len]; exact hl, ρ, F, A, A', ds, st2, fun b x y => dj b x (s b y), en, rs, ?_⟩
      have s0 : Step F (un A B) H F (un A A') H := (Step.refl st).sub fun b x => x.imp id (s b)
      cases e : gs ds ρ with
      | none => rw [e] at p; exact p
      | some ρ2 => rw [e] at p; exact fun σ4 H4 F4 A4 ag s4 en4 => p σ4 H4 F4 A4 ag (s0.trans s4) en4
    · rw [if_neg hl] at p
      exact p.elim⟩
end
end T
end

section
set_option Elab.async false
set_option linter.all false
set_option maxRecDepth 100000
set_option maxHeartbeats 1000000
namespace T
open PySem PySem.Spec PyProof.Rows L2
/-! ### x.f.clear() -/
section
variable {X : Cx} {L : Lc} {pos apos fpos p : Pos} {x f : Str} {cs : List Cid}
def mClrF (cs : List Cid) (i : Nat) (f : Str) : Ro → RS := fun ρ => match ρ[i]? with
  | some (some (.ins true c fs vs)) => (match posF f fs with
    | some j => (match vs[j]? with
      | some (.lst true xs) => if cs.contains c then .nx (ρ.set i (some (.ins true c fs (vs.set j (.lst true []))))) else .bad
      | _ => .bad)
    | none => .bad)
  | _ => .bad
theorem lft_clrF (i : Nat) (hf : FldOk X.K L.cA cs f) : ∀ (Dn : Ends) σ H, lftS X.K L (mClrF cs i f) Dn σ H → tBM0 X.K "list" rClear (tFld X.K (tVar i) f) σ H fun _ H' => Dn.nx σ H' := by
  rintro Dn σ H ⟨ρ, F, A, st, en, po⟩
  unfold mClrF at po
  split at po
  · rename_i c fs vs e0
    split at po
    · rename_i j ej
      split at po
      · rename_i xs ex
        split at po
        · rename_i hc
          obtain ⟨v, A1, A2, e1, s, r0, rs⟩ := en.env.take e0
          obtain ⟨a, ws, dx, A', rfl, t, hl, ma', sa, rr⟩ := r0
          obtain ⟨h1, h2⟩ := hf c hc
          obtain ⟨l, us, A0, el, tl, ml, sl, rl, up⟩ := rr.lens ex
          refine ⟨.ref a, e1, a, _, dx, _, .ref l, rfl, t, h1, h2, lookup_pos ej el, .inl ⟨rfl, us, .inl (.inl tl)⟩, l, us, rfl, rfl, tl, ?_⟩
          have st' : Sta F (un A2 A1) H := st.sub fun b y => y.elim (s.r b) (s.l b)
          have dj : Dj A2 A1 := fun b y z => s.d b z y
          have nF : ∀ b, F b → b ≠ l := fun b z w => st.dj b (s.l b (by rw [w]; exact (sa l ml).1)) z
          have ne : a ≠ l := fun z => (sa l ml).2 z.symm
          have k1 : ∀ b o, F b ∨ A' b → b ≠ l → H b = some o → upd H l (.lst []) b = some o := fun b o _ n e => by rw [upd_ne n]; exact e
          have r2 := up (upd H l (.lst [])) [] [] no nF k1 upd_same (fun _ _ z => z.elim) rfl
          have r3 : Rep X.K L.cA F (upd H l (.lst [])) (.ins true c fs (vs.set j (.lst true []))) (.ref a) A1 :=
            ⟨a, ws, dx, un A' no, rfl, by rw [upd_ne ne]; exact t, hl, ma', fun b z => ⟨z.elim (fun z => (sa b z).1) False.elim, z.elim (fun z => (sa b z).2) False.elim⟩, r2⟩
          have step := upd_step (w := .lst []) st' tl (.inr (sa l ml).1) (fun _ z => nomatch z)
          have en2 : EnvR X.K L.cA F (upd H l (.lst [])) (ρ.set i none) σ A2 := rs.move (fun _ z => z) (upd_keep fun b z => z.elim (nF b) fun z w => s.d b (by rw [w]; exact (sa l ml).1) z) fun _ z => z
          have en3 := en2.back (i := i) r3 dj e1
          rw [List.set_set] at en3
          have po' : PostS X.K L F (un A2 A1) H Dn (.nx (ρ.set i (some (.ins true c fs (vs.set j (.lst true [])))))) := PostS.step ((Step.refl st).sub fun b y => y.elim (s.r b) (s.l b)) po
          exact po' σ _ F _ (step.sub fun b z => z) ⟨en3, en.pin⟩
        · exact po.elim
      · exact po.elim
    · exact po.elim
  · exact po.elim
theorem ds_clrF (i : Nat) (hf : FldOk X.K L.cA cs f) (hN : X.N[i]? = some x := by rfl) (hv : Vis X.env.scope x := by first | exact Or.inl rfl | exact Or.inr (Or.inl rfl) | exact Or.inr (Or.inr rfl)) (hd : (x == ("__debug__" : Str)) = false := by decide) (hcd : (x == ("__classdict__" : Str)) = false := by decide)
    (h0 : attributeBase (.Name x p) f X.env (eval (.Name x p) X.env) = eval (.Name x p) X.env := by rfl) (h1 : attributeBase (.Attribute (.Name x p) f fpos) (Str.ofString "clear") X.env (eval (.Attribute (.Name x p) f fpos) X.env) = eval (.Attribute (.Name x p) f fpos) X.env := by rfl)
    (h3 : (apos.endLine == pos.line) = true := by rfl) (hs : swapsWith (.Call (.Attribute (.Attribute (.Name x p) f fpos) (Str.ofString "clear") apos) [] [] pos) none pos.line X.env = pure false := by rfl) :
    DS X L (.Expr (.Call (.Attribute (.Attribute (.Name x p) f fpos) (Str.ofString "clear") apos) [] [] pos) pos) (mClrF cs i f) :=
  ⟨ps_to (ps_expr (pe_bm0 F.plainAttrs_list F.slot_list_clear F.type_list_clear mt_clear (pe_fld (pe_var hN hv hd hcd) h0) h1 h3) hs) fun Dn σ H h => lft_clrF i hf Dn σ H h⟩
end
end T
end

section
set_option Elab.async false
set_option linter.all false
set_option maxRecDepth 100000
set_option maxHeartbeats 1000000
namespace T
open PySem PySem.Spec PyProof.Rows L2
/-! ### list(range(n)) -/
def oLRg : D → Ro → R D
  | .int n, ρ => if decide (0 ≤ n) && decide (n ≤ 1000000) then .ok (.lst true (rng 0 n.toNat)) ρ else .bad
  | _, _ => .bad
theorem reps_rng {K : Frag} {cA : Cid → Addr} {F : FP} {H : Hp} {lo : Int} : ∀ {l : List Nat} {A : FP}, Reps K cA F H (l.map fun i : Nat => D.int (lo + (i : Nat))) (l.map fun i : Nat => V.int (lo + (i : Nat))) A
  | [], _ => rfl
  | i :: l, A => ⟨_, _, no, no, rfl, ⟨fun _ z => z.elim, fun _ z => z.elim, fun _ z => z.elim⟩, rfl, reps_rng⟩
section
variable {X : Cx} {L : Lc} {pos p q : Pos} {e : Expr} {m : Ro → R D}
theorem de_listRg (hc : X.calm = true) (hml : X.mg "list" = none) (hmr : X.mg "range" = none) (he : DE X L e m) (hgl : Gl X "list" := by rfl) (hgr : Gl X "range" := by rfl) (n1 : starEach [e] X.env = (false, eval e X.env) :: starEach [] X.env := by rfl)
    (n2 : starEach [.Call (.Name "range" q) [e] [] pos] X.env = (false, eval (.Call (.Name "range" q) [e] [] pos) X.env) :: starEach [] X.env := by rfl) {pos2 : Pos} : DE X L (.Call (.Name "list" p) [.Call (.Name "range" q) [e] [] pos] [] pos2) (m1 oLRg m) := ⟨pe_to (pe_listRg hc hgl hml (prg_1 hgr hmr he.pe n1) n2) fun σ H Q h => by
  refine lft_bind h fun v H1 F1 A1 B1 d ρ1 st dj en q p => ?_
  unfold oLRg at p
  split at p
  · rename_i n
    split at p
    · rename_i hz
      rw [Bool.and_eq_true] at hz
      have z1 := of_decide_eq_true hz.1
      have z2 := of_decide_eq_true hz.2
      refine ⟨n, q, RgOk.of_le (Int.le_refl 0) (by omega) (by omega) z1, fun a np => ?_⟩
      have e : n - 0 = n := by omega
      have st' : Sta F1 (un A1 no) H1 := st.sub fun b x => x.elim .inl False.elim
      have p' : Post X.K L rE F1 (un A1 no) H1 σ Q (.ok (.lst true (rng 0 n.toNat)) ρ1) := Post.step ((Step.refl st).sub fun b x => x.elim .inl False.elim) p
      unfold rgV
      rw [e]
      exact end_lst (A := A1) (B := no) st' (fun _ _ z => z.elim) en reps_rng np p'
    · exact p.elim
  · exact p.elim⟩
end
end T
end

section
set_option Elab.async false
set_option linter.all false
namespace T
open PySem PySem.Spec PyProof.Rows L2
/-! ### one default that is () -/
theorem vals_ref {e : Addr} : Vals [V.ref e] [Value.ref e] := .cons rfl .nil
theorem dfl_tup0 {K : Frag} {cA : Cid → Addr} {e : Addr} (h : KTup K e []) : Dfl K cA [.tup []] [.ref e] := fun _ _ => ⟨.ref e, [], no, no, rfl, ⟨fun _ z => z, fun _ z => z, fun _ z => z.elim⟩, ⟨e, [], rfl, .inr h, rfl⟩, rfl⟩
@[simp] theorem oAddA_lst {o p : Bool} {xs ys : List D} {ρ : Ro} : oAddA (.lst o xs) (.lst p ys) ρ = if szOk (xs.length + ys.length) then .ok (.lst true (T.fzs xs ++ T.fzs ys)) ρ else .bad := rfl
end T
end

section
set_option Elab.async false
set_option linter.all false
set_option maxRecDepth 100000
set_option maxHeartbeats 4000000
namespace Qk52
open PySem PySem.Spec PyProof.Rows L2 T
def top (i : Nat) : Stmt := PySem.Challenge.pw_mathboxes_k52_bars_above_and_below.main.body.getD i (.Pass ⟨0, 0, 0, 0⟩)
abbrev s_sizes_of : Stmt := top 33
abbrev s_Boxdd_eqdd : Stmt := inClass (top 32) 1
abbrev s_Boxdd_initdd : Stmt := inClass (top 32) 0
abbrev s_law_box : Stmt := top 58
abbrev s_law_digits : Stmt := top 54
abbrev s_is_circle : Stmt := top 23
abbrev s_is_integer : Stmt := top 11
abbrev s_is_between : Stmt := top 12
abbrev s_is_name : Stmt := top 13
abbrev s_is_tuple : Stmt := top 14
abbrev s_is_glyph : Stmt := top 21
abbrev s_is_pair : Stmt := top 22
abbrev s_check_face : Stmt := top 24
abbrev s_check_families : Stmt := top 25
abbrev s_most_of : Stmt := top 27
abbrev s_check_words : Stmt := top 26
abbrev s_copied_face : Stmt := top 28
abbrev s_Fontsdd_initdd : Stmt := inClass (top 29) 0
abbrev s_law_fonts : Stmt := top 57
abbrev s_law_over : Stmt := top 60
abbrev s_law_size : Stmt := top 59
abbrev s_law_under : Stmt := top 61
abbrev s_check_fonts : Stmt := top 30
abbrev s_is_path : Stmt := top 35
abbrev s_is_whole : Stmt := top 34
abbrev s_is_mark : Stmt := top 36
abbrev s_is_placed : Stmt := top 37
abbrev s_check_box : Stmt := top 38
abbrev s_check_part : Stmt := top 46
abbrev s_check_style : Stmt := top 44
abbrev s_check_inner : Stmt := top 50
abbrev s_Fonts_amount : Stmt := inClass (top 29) 11
abbrev s_rule_box : Stmt := top 41
abbrev s_size_of : Stmt := top 43
abbrev s_marks_moved : Stmt := top 39
abbrev s_together_box : Stmt := top 40
abbrev s_over_box : Stmt := top 48
abbrev s_overlined : Stmt := top 51
abbrev s_under_box : Stmt := top 49
abbrev s_underlined : Stmt := top 52
abbrev s_law_right : Stmt := top 62
abbrev s_law_words : Stmt := top 55
abbrev s_law_world : Stmt := top 56
abbrev s_law : Stmt := top 63
abbrev N_sizes_of : List Str := ["box"]
abbrev N_Boxdd_eqdd : List Str := ["self", "other"]
abbrev N_Boxdd_initdd : List Str := ["self", "width", "height", "depth", "marks"]
abbrev N_law_box : List Str := ["digits", "grow", "at", "width", "sign", "marks", "height", "depth", "k"]
abbrev N_law_digits : List Str := ["cell", "many", "digits", "rest", "mixed", "k"]
abbrev N_is_circle : List Str := ["face", "name", "met"]
abbrev N_is_integer : List Str := ["thing"]
abbrev N_is_between : List Str := ["thing", "least", "most"]
abbrev N_is_name : List Str := ["thing", "letter"]
abbrev N_is_tuple : List Str := ["thing", "many"]
abbrev N_is_glyph : List Str := ["face", "glyph", "later", "parts", "number", "part"]
abbrev N_is_pair : List Str := ["face", "pair", "deed", "name"]
abbrev N_check_face : List Str := ["face", "place", "name", "part", "pair", "deed"]
abbrev N_check_families : List Str := ["families", "family", "faces", "size", "face"]
abbrev N_most_of : List Str := ["word"]
abbrev N_check_words : List Str := ["values", "words", "part", "place", "word"]
abbrev N_copied_face : List Str := ["face"]
abbrev N_Fontsdd_initdd : List Str := ["self", "families", "numbers", "settings", "skew", "size", "values", "faces", "face"]
abbrev N_law_fonts : List Str := ["world", "face", "row"]
abbrev N_law_over : List Str := ["box", "thick", "mark"]
abbrev N_law_size : List Str := ["style"]
abbrev N_law_under : List Str := ["box", "thick", "low"]
abbrev N_check_fonts : List Str := ["fonts"]
abbrev N_is_path : List Str := ["thing", "one"]
abbrev N_is_whole : List Str := ["thing"]
abbrev N_is_mark : List Str := ["thing"]
abbrev N_is_placed : List Str := ["thing"]
abbrev N_check_box : List Str := ["box", "part", "number", "one"]
abbrev N_check_part : List Str := ["part", "value"]
abbrev N_check_style : List Str := ["style"]
abbrev N_check_inner : List Str := ["fonts", "style", "inner"]
abbrev N_Fonts_amount : List Str := ["self", "size", "word"]
abbrev N_rule_box : List Str := ["path", "width", "height"]
abbrev N_size_of : List Str := ["style"]
abbrev N_marks_moved : List Str := ["box", "dx", "dy", "x", "y", "mark"]
abbrev N_together_box : List Str := ["width", "height", "depth", "placed", "marks", "box", "dx", "dy"]
abbrev N_over_box : List Str := ["fonts", "style", "path", "inner", "thick", "bar", "height"]
abbrev N_overlined : List Str := ["fonts", "style", "inner"]
abbrev N_under_box : List Str := ["fonts", "style", "path", "inner", "thick", "bar", "depth"]
abbrev N_underlined : List Str := ["fonts", "style", "inner"]
abbrev N_law_right : List Str := ["fonts", "world", "style", "box", "turn", "thick", "kept", "above", "below"]
abbrev N_law_words : List Str := ["numbers", "settings"]
abbrev N_law_world : List Str := ["digits", "grow", "numbers", "size", "settings", "words", "others", "row", "at", "word", "drawn"]
abbrev N_law : List Str := ["script", "cell", "digits", "grow", "world", "fonts", "turn", "box", "style"]
abbrev k_LETTERS : D := (.str "abcdefghijklmnopqrstuvwxyz")
abbrev k_MOST : D := (.int (1000000000000000000000000000000000000000000000000000000000000))
abbrev k_MOST_FACTOR : D := (.int (1000))
abbrev k_MOST_FAMILIES : D := (.int (4))
abbrev k_MOST_GLYPHS : D := (.int (200))
abbrev k_MOST_LETTERS : D := (.int (8))
abbrev k_SETTINGS : D := (.tup [(.str "scriptspace"), (.str "factor"), (.str "short"), (.str "empty"), (.str "thin"), (.str "medium"), (.str "thick"), (.str "baseline"), (.str "apart"), (.str "column"), (.str "indent")])
abbrev k_WORDS : D := (.tup [(.str "xheight"), (.str "quad"), (.str "up1"), (.str "up2"), (.str "up3"), (.str "down1"), (.str "down2"), (.str "sup1"), (.str "sup2"), (.str "sup3"), (.str "sub1"), (.str "sub2"), (.str "supdrop"), (.str "subdrop"), (.str "delim1"), (.str "delim2"), (.str "axis"), (.str "rule"), (.str "gap1"), (.str "gap2"), (.str "gap3"), (.str "gap4"), (.str "gap5")])
def mt_InvalidBox : Cid → Option Bool := fun c =>  none
abbrev kitCs : List Cid := [6, 5]
def m_sizes_of (_ : Unit) : Ro → RS := (mRet (mN oTup (mCons (m1 (oFld [6] "width") (mV 0)) (mCons (m1 (oFld [6] "height") (mV 0)) (mCons (m1 (oFld [6] "depth") (mV 0)) mNil)))))
def F_sizes_of : List D → RF := fun ds => toRF [] (m_sizes_of () (start0 N_sizes_of ds))
def m_Boxdd_eqdd (_ : Unit) : Ro → RS := (mSeq (mIfS (mOr (mNot (mT (mN (oIsi kitCs) (mCons (mV 1) (mCons (mC (.cls 6)) mNil))))) (mT (m2 oNe (mCallF [none] [] [] F_sizes_of (mCons (mV 0) mNil)) (mCallF [none] [] [] F_sizes_of (mCons (mV 1) mNil))))) (mRet (mC (.bl false))) mNx)
  (mRet (m2 oEq (m1 (oFld [6] "marks") (mV 0)) (m1 (oFld [6] "marks") (mV 1)))))
def F_Boxdd_eqdd : List D → RF := fun ds => toRF [] (m_Boxdd_eqdd () (start0 N_Boxdd_eqdd ds))
def m_Boxdd_initdd (_ : Unit) : Ro → RS := (mSeq (mSetF [6] 0 "width" (mV 1))
  (mSeq (mSetF [6] 0 "height" (mV 2))
  (mSeq (mSetF [6] 0 "depth" (mV 3))
  (mSetF [6] 0 "marks" (mN oList (mCons (mV 4) mNil))))))
def F_Boxdd_initdd : List D → RF := fun ds => toRF [0] (m_Boxdd_initdd () (start0 N_Boxdd_initdd ds))
def m_law_box (_ : Unit) : Ro → RS := (mSeq (mAsg (mLc (fun ρ => ((mCons (mC (.int 3)) mNil) ρ).bind oRange) (gSet 8) mYes (m2 oMulI (m2 oMod (mN oInt (mCons (m2 oIx (mV 0) (mV 8)) mNil)) (mC (.int 700))) (mV 1)) [8]) (gUnlD 3 (gsCons (gSet 3) (gsCons (gSet 6) (gsCons (gSet 7) gsNil)))))
  (mSeq (mAsg (m2 oIx (mN oLst (mCons (mV 3) (mCons (m2 oSub (mC (.int 0)) (m2 oFdiv (mV 3) (mC (.int 3)))) mNil))) (mN oInt (mCons (m2 oEq (m2 oMod (mN oInt (mCons (m2 oIx (mV 0) (mC (.int 1))) mNil)) (mC (.int 8))) (mC (.int 0))) mNil))) (gSet 3))
  (mSeq (mAsg (m2 oMod (mN oInt (mCons (m2 oIx (mV 0) (mC (.int 3))) mNil)) (mC (.int 9))) (gSet 4))
  (mSeq (mPar 6 7 (mCons (m2 oIx (mN oLst (mCons (mV 6) (mCons (m2 oSub (mC (.int 0)) (m2 oFdiv (mV 6) (mC (.int 4)))) mNil))) (mN oInt (mCons (m2 oEq (mV 4) (mC (.int 1))) mNil))) (mCons (m2 oIx (mN oLst (mCons (mV 7) (mCons (m2 oFdiv (mV 7) (mC (.int 2))) (mCons (m2 oSub (mC (.int 0)) (m2 oFdiv (mV 7) (mC (.int 5)))) (mCons (mC (.int 0)) mNil))))) (m2 oMod (mN oInt (mCons (mV 4) mNil)) (mC (.int 4)))) mNil)))
  (mSeq (mAsg (mN oLst (mCons (mN oTup (mCons (m2 oMod (mN oInt (mCons (m2 oIx (mV 0) (mC (.int 4))) mNil)) (mC (.int 9))) (mCons (m2 oSub (m2 oMod (mN oInt (mCons (m2 oIx (mV 0) (mC (.int 3))) mNil)) (mC (.int 7))) (mC (.int 3))) (mCons (mN oTup (mCons (mC (.str "rule")) (mCons (mN oTup (mCons (mV 2) (mCons (mC (.int 1)) mNil))) (mCons (m2 oFdiv (mV 3) (mC (.int 2))) (mCons (mC (.int 5)) mNil))))) mNil)))) mNil)) (gSet 5))
  (mRet (mMake 6 4 [] F_Boxdd_initdd (mCons (mV 3) (mCons (mV 6) (mCons (mV 7) (mCons (m2 oAddA (mV 5) (mN oLst (mCons (mN oTup (mCons (mC (.int 0)) (mCons (mC (.int 0)) (mCons (mN oTup (mCons (mC (.str "glyph")) (mCons (mN oTup (mCons (mV 2) mNil)) (mCons (m2 oMod (mN oInt (mCons (mV 2) mNil)) (mC (.int 4))) (mCons (m2 oMod (mN oInt (mCons (m2 oIx (mV 0) (mC (.int 4))) mNil)) (mC (.int 3))) (mCons (mC (.str "x")) mNil)))))) mNil)))) mNil))) mNil)))))))))))
def F_law_box : List D → RF := fun ds => toRF [] (m_law_box () (start0 N_law_box ds))
def m_law_digits (_ : Unit) : Ro → RS := (mSeq (mAsg (mN oLst mNil) (gSet 2))
  (mSeq (mAsg (mC (.int 0)) (gSet 3))
  (mSeq (mIfS (mT (m2 oGe (mV 0) (m2 oPow (mC (.int 10)) (mC (.int 18))))) (mAsg (mV 0) (gSet 3)) mNx)
  (mSeq (mAsg (m2 oMod (mN oInt (mCons (mV 0) mNil)) (mC (.int 2147483647))) (gSet 4))
  (mSeq (mFor (fun ρ => ((mCons (mV 1) mNil) ρ).bind oRange) (gSet 5) (mSeq (mAsg (m2 oMod (mN oInt (mCons (m2 oAddA (m2 oAddA (m2 oMulI (mV 4) (mC (.int 48271))) (m2 oMulI (mC (.int 30103)) (mV 5))) (mC (.int 11))) mNil)) (mC (.int 2147483647))) (gSet 4))
  (mSeq (mAsg (m2 oMod (mN oInt (mCons (m2 oMulI (mV 4) (m2 oAddA (m2 oFdiv (mV 4) (mC (.int 1009))) (mC (.int 69621)))) mNil)) (mC (.int 2147483629))) (gSet 4))
  (mIfS (mT (m2 oGt (mV 3) (mC (.int 0)))) (mSeq (mMut 2 fApp (m2 oMod (mN oInt (mCons (mV 3) mNil)) (mC (.int 1009))))
  (mAsg (m2 oFdiv (mV 3) (mC (.int 1009))) (gSet 3))) (mMut 2 fApp (m2 oMod (mN oInt (mCons (m2 oFdiv (mV 4) (mC (.int 7))) mNil)) (mC (.int 1009))))))))
  (mRet (mMv 2)))))))
def F_law_digits : List D → RF := fun ds => toRF [] (m_law_digits () (start0 N_law_digits ds))
def m_is_circle (_ : Unit) : Ro → RS := (mSeq (mAsg (mN oLst mNil) (gSet 2))
  (mSeq (mWhile (mB (fun _ => true) (mAnd (mT (m2 oIsNot (mV 1) (mC .non))) (mT (m2 oNotIn (mV 1) (mV 2))))) (mSeq (mMut 2 fApp (mV 1))
  (mAsg (m2 oIx (m2 oIxA (m2 oIx (mV 0) (mC (.int 0))) (mV 1)) (mC (.int 4))) (gSet 1))) 100000)
  (mRet (m2 oIsNot (mV 1) (mC .non)))))
def F_is_circle : List D → RF := fun ds => toRF [] (m_is_circle () (start0 N_is_circle ds))
def m_is_integer (_ : Unit) : Ro → RS := (mRet (mAndV (mN (oIsi kitCs) (mCons (mV 0) (mCons (mC (.ty "int")) mNil))) (m1 oNot (mN (oIsi kitCs) (mCons (mV 0) (mCons (mC (.ty "bool")) mNil))))))
def F_is_integer : List D → RF := fun ds => toRF [] (m_is_integer () (start0 N_is_integer ds))
def m_is_between (_ : Unit) : Ro → RS := (mRet (mAndV (mCallF [none] [] [] F_is_integer (mCons (mV 0) mNil)) (mCh oLe oLe (mV 1) (mV 0) (mV 2))))
def F_is_between : List D → RF := fun ds => toRF [] (m_is_between () (start0 N_is_between ds))
def m_is_name (_ : Unit) : Ro → RS := (mSeq (mIfS (mOr (mNot (mT (mN (oIsi kitCs) (mCons (mV 0) (mCons (mC (.ty "str")) mNil))))) (mNot (mT (mCh oLe oLe (mC (.int 1)) (mN oLenS (mCons (mV 0) mNil)) (mC k_MOST_LETTERS))))) (mRet (mC (.bl false))) mNx)
  (mRet (mN oAll (mCons (mLc (fun ρ => ((mV 0) ρ).bind oChars) (gSet 1) mYes (m2 oIn (mV 1) (mC k_LETTERS)) [1]) mNil))))
def F_is_name : List D → RF := fun ds => toRF [] (m_is_name () (start0 N_is_name ds))
def m_is_tuple (_ : Unit) : Ro → RS := (mRet (mAndV (mN (oIsi kitCs) (mCons (mV 0) (mCons (mC (.ty "tuple")) mNil))) (m2 oEq (mN oLenS (mCons (mV 0) mNil)) (mV 1))))
def F_is_tuple : List D → RF := fun ds => toRF [] (m_is_tuple () (start0 N_is_tuple ds))
def m_is_glyph (_ : Unit) : Ro → RS := (mSeq (mIfS (mOr (mNot (mT (mCallF [none, none] [] [] F_is_tuple (mCons (mV 1) (mCons (mC (.int 6)) mNil))))) (mNot (mT (mN oAll (mCons (mLc (fun ρ => ((mSl (mV 1) mNone (fun ρ => ((mC (.int 4)) ρ).bind oSome)) ρ).bind oSeq) (gSet 4) mYes (mCallF [none, none, none] [] [] F_is_between (mCons (mV 4) (mCons (mC (.int 0)) (mCons (mC k_MOST) mNil)))) [4]) mNil))))) (mRet (mC (.bl false))) mNx)
  (mSeq (mAsg (mSl (mV 1) (fun ρ => ((mC (.int 4)) ρ).bind oSome) mNone) (gTupD 2 (gsCons (gSet 2) (gsCons (gSet 3) gsNil))))
  (mSeq (mIfS (mAnd (mT (m2 oIsNot (mV 2) (mC .non))) (mOr (mT (m2 oIsNot (mV 3) (mC .non))) (mOr (mNot (mT (mCallF [none] [] [] F_is_name (mCons (mV 2) mNil)))) (mT (m2 (oInD (!·)) (mV 2) (m2 oIx (mV 0) (mC (.int 0)))))))) (mRet (mC (.bl false))) mNx)
  (mSeq (mIfS (mT (m2 oIs (mV 3) (mC .non))) (mRet (mC (.bl true))) mNx)
  (mSeq (mIfS (mOr (mNot (mT (mCallF [none, none] [] [] F_is_tuple (mCons (mV 3) (mCons (mC (.int 4)) mNil))))) (mNot (mT (mN oAll (mCons (mLc (fun ρ => ((mV 3) ρ).bind oSeq) (gSet 5) mYes (mOrV (m2 oIs (mV 5) (mC .non)) (mAndV (mCallF [none] [] [] F_is_name (mCons (mV 5) mNil)) (m2 (oInD id) (mV 5) (m2 oIx (mV 0) (mC (.int 0)))))) [5]) mNil))))) (mRet (mC (.bl false))) mNx)
  (mRet (m2 oIsNot (m2 oIx (mV 3) (mC (.int 3))) (mC .non))))))))
def F_is_glyph : List D → RF := fun ds => toRF [] (m_is_glyph () (start0 N_is_glyph ds))
def m_is_pair (_ : Unit) : Ro → RS := (mSeq (mIfS (mOr (mNot (mT (mCallF [none, none] [] [] F_is_tuple (mCons (mV 1) (mCons (mC (.int 2)) mNil))))) (mNot (mT (mN oAll (mCons (mLc (fun ρ => ((mV 1) ρ).bind oSeq) (gSet 3) mYes (mAndV (mCallF [none] [] [] F_is_name (mCons (mV 3) mNil)) (m2 (oInD id) (mV 3) (m2 oIx (mV 0) (mC (.int 0))))) [3]) mNil))))) (mRet (mC (.bl false))) mNx)
  (mSeq (mIfS (mOr (mNot (mT (mCallF [none, none] [] [] F_is_tuple (mCons (mV 2) (mCons (mC (.int 2)) mNil))))) (mNot (mT (mN (oIsi kitCs) (mCons (m2 oIx (mV 2) (mC (.int 0))) (mCons (mC (.ty "str")) mNil)))))) (mRet (mC (.bl false))) mNx)
  (mSeq (mIfS (mT (m2 oEq (m2 oIx (mV 2) (mC (.int 0))) (mC (.str "kern")))) (mRet (mCallF [none, none, none] [] [] F_is_between (mCons (m2 oIx (mV 2) (mC (.int 1))) (mCons (m1 oNeg (mC k_MOST)) (mCons (mC k_MOST) mNil))))) mNx)
  (mRet (mAndV (m2 oEq (m2 oIx (mV 2) (mC (.int 0))) (mC (.str "join"))) (mAndV (mCallF [none] [] [] F_is_name (mCons (m2 oIx (mV 2) (mC (.int 1))) mNil)) (m2 (oInD id) (m2 oIx (mV 2) (mC (.int 1))) (m2 oIx (mV 0) (mC (.int 0))))))))))
def F_is_pair : List D → RF := fun ds => toRF [] (m_is_pair () (start0 N_is_pair ds))
def m_check_face (_ : Unit) : Ro → RS := (mSeq (mIfS (mOr (mNot (mT (mCallF [none, none] [] [] F_is_tuple (mCons (mV 0) (mCons (mC (.int 3)) mNil))))) (mOr (mNot (mT (mN oAll (mCons (mLc (fun ρ => ((mSl (mV 0) mNone (fun ρ => ((mC (.int 2)) ρ).bind oSome)) ρ).bind oSeq) (gSet 3) mYes (mN (oIsi kitCs) (mCons (mV 3) (mCons (mC (.ty "dict")) mNil))) [3]) mNil)))) (mNot (mT (mN (oIsi kitCs) (mCons (m2 oIx (mV 0) (mC (.int 2))) (mCons (mC (.ty "bool")) mNil))))))) (fun _ => .bad) mNx)
  (mSeq (mIfS (mOr (mT (m2 oGt (mN oLenD (mCons (m2 oIx (mV 0) (mC (.int 0))) mNil)) (mC k_MOST_GLYPHS))) (mNot (mT (mN oAll (mCons (mLcK0 (m2 oIx (mV 0) (mC (.int 0)))) mNil))))) (fun _ => .bad) mNx)
  (mSeq (mFor (fun ρ => ((mN oSortD1 (mCons (m2 oIx (mV 0) (mC (.int 0))) mNil)) ρ).bind oSeq) (gSet 2) (mIfS (mNot (mT (mCallF [none, none] [] [] F_is_glyph (mCons (mV 0) (mCons (m2 oIxA (m2 oIx (mV 0) (mC (.int 0))) (mV 2)) mNil))))) (fun _ => .bad) mNx))
  (mSeq (mFor (fun ρ => ((mN oSortD1 (mCons (m2 oIx (mV 0) (mC (.int 0))) mNil)) ρ).bind oSeq) (gSet 2) (mIfS (mT (mCallF [none, none] [] [] F_is_circle (mCons (mV 0) (mCons (mV 2) mNil)))) (fun _ => .bad) mNx))
  (mIfS (mNot (mT (mN oAll (mCons (mLcK0 (m2 oIx (mV 0) (mC (.int 1)))) mNil)))) (fun _ => .bad) mNx)))))
def F_check_face : List D → RF := fun ds => toRF [] (m_check_face () (start0 N_check_face ds))
def m_check_families (_ : Unit) : Ro → RS := (mSeq (mIfS (mOr (mNot (mT (mN (oIsi kitCs) (mCons (mV 0) (mCons (mC (.ty "list")) mNil))))) (mNot (mT (mCh oLe oLe (mC (.int 1)) (mN oLenS (mCons (mV 0) mNil)) (mC k_MOST_FAMILIES))))) (fun _ => .bad) mNx)
  (mFor (fun ρ => ((mCons (mV 0) mNil) ρ).bind oEnum) (gTupD 2 (gsCons (gSet 1) (gsCons (gSet 2) gsNil))) (mSeq (mIfS (mNot (mT (mCallF [none, none] [] [] F_is_tuple (mCons (mV 2) (mCons (mC (.int 3)) mNil))))) (fun _ => .bad) mNx)
  (mFor (fun ρ => ((mCons (mV 2) mNil) ρ).bind oEnumT) (gTupD 2 (gsCons (gSet 3) (gsCons (gSet 4) gsNil))) (mDrop (mCallF [none, none] [] [] F_check_face (mCons (mV 4) (mCons (mN oTup (mCons (mV 1) (mCons (mV 3) mNil))) mNil))))))))
def F_check_families : List D → RF := fun ds => toRF [] (m_check_families () (start0 N_check_families ds))
def m_most_of (_ : Unit) : Ro → RS := (mRet (mIf (mT (m2 oEq (mV 0) (mC (.str "factor")))) (mC k_MOST_FACTOR) (mC k_MOST)))
def F_most_of : List D → RF := fun ds => toRF [] (m_most_of () (start0 N_most_of ds))
def m_check_words (_ : Unit) : Ro → RS := (mSeq (mIfS (mOr (mNot (mT (mN (oIsi kitCs) (mCons (mV 0) (mCons (mC (.ty "dict")) mNil))))) (mT (m2 oNe (mN oLenD (mCons (mV 0) mNil)) (mN oLenS (mCons (mV 1) mNil))))) (fun _ => .bad) mNx)
  (mFor (fun ρ => ((mV 1) ρ).bind oSeq) (gSet 4) (mIfS (mOr (mT (m2 (oInD (!·)) (mV 4) (mV 0))) (mNot (mT (mCallF [none, none, none] [] [] F_is_between (mCons (m2 oIxA (mV 0) (mV 4)) (mCons (mC (.int 0)) (mCons (mCallF [none] [] [] F_most_of (mCons (mV 4) mNil)) mNil))))))) (fun _ => .bad) mNx)))
def F_check_words : List D → RF := fun ds => toRF [] (m_check_words () (start0 N_check_words ds))
def m_copied_face (_ : Unit) : Ro → RS := (mRet (mN oTup (mCons (mN oDictC (mCons (m2 oIx (mV 0) (mC (.int 0))) mNil)) (mCons (mN oDictC (mCons (m2 oIx (mV 0) (mC (.int 1))) mNil)) (mCons (m2 oIx (mV 0) (mC (.int 2))) mNil)))))
def F_copied_face : List D → RF := fun ds => toRF [] (m_copied_face () (start0 N_copied_face ds))
def m_Fontsdd_initdd (_ : Unit) : Ro → RS := (mSeq (mDrop (mCallF [none] [] [] F_check_families (mCons (mV 1) mNil)))
  (mSeq (mIfS (mNot (mT (mCallF [none, none] [] [] F_is_tuple (mCons (mV 2) (mCons (mC (.int 3)) mNil))))) (fun _ => .bad) mNx)
  (mSeq (mFor (fun ρ => ((mCons (mV 2) mNil) ρ).bind oEnumT) (gTupD 2 (gsCons (gSet 5) (gsCons (gSet 6) gsNil))) (mDrop (mCallF [none, none, none, none] [] [] F_check_words (mCons (mV 6) (mCons (mC k_WORDS) (mCons (mC (.str "numbers")) (mCons (mN oTup (mCons (mV 5) mNil)) mNil)))))))
  (mSeq (mDrop (mCallF [none, none, none, none] [] [] F_check_words (mCons (mV 3) (mCons (mC k_SETTINGS) (mCons (mC (.str "settings")) (mCons (mN oTup mNil) mNil))))))
  (mSeq (mIfS (mAnd (mT (m2 oIsNot (mV 4) (mC .non))) (mNot (mT (mCallF [none] [] [] F_is_name (mCons (mV 4) mNil))))) (fun _ => .bad) mNx)
  (mSeq (mSetF [5] 0 "family_rows" (mLc (fun ρ => ((mV 1) ρ).bind oSeq) (gSet 7) mYes (mN oTuple (mCons (mLc (fun ρ => ((mV 7) ρ).bind oSeq) (gSet 8) mYes (mCallF [none] [] [] F_copied_face (mCons (mV 8) mNil)) [8]) mNil)) [7]))
  (mSeq (mSetF [5] 0 "number_rows" (mN oTuple (mCons (mLc (fun ρ => ((mV 2) ρ).bind oSeq) (gSet 6) mYes (mN oDictC (mCons (mV 6) mNil)) [6]) mNil)))
  (mSeq (mSetF [5] 0 "setting_rows" (mN oDictC (mCons (mV 3) mNil)))
  (mSetF [5] 0 "skew_name" (mV 4))))))))))
def F_Fontsdd_initdd : List D → RF := fun ds => toRF [0] (m_Fontsdd_initdd () (start0 N_Fontsdd_initdd ds))
def m_law_fonts (_ : Unit) : Ro → RS := (mSeq (mAsg (mN oTup (mCons oDict0 (mCons oDict0 (mCons (mC (.bl false)) mNil)))) (gSet 1))
  (mRet (mMake 5 3 [.non] F_Fontsdd_initdd (mCons (mN oLst (mCons (mN oTup (mCons (mV 1) (mCons (mV 1) (mCons (mV 1) mNil)))) mNil)) (mCons (mN oTuple (mCons (mLc (fun ρ => ((m2 oIxA (mV 0) (mC (.str "numbers"))) ρ).bind oSeq) (gSet 2) mYes (mN oDictC (mCons (mV 2) mNil)) [2]) mNil)) (mCons (mN oDictC (mCons (m2 oIxA (mV 0) (mC (.str "settings"))) mNil)) mNil))))))
def F_law_fonts : List D → RF := fun ds => toRF [] (m_law_fonts () (start0 N_law_fonts ds))
def m_law_over (_ : Unit) : Ro → RS := (mSeq (mAsg (mN oTup (mCons (mC (.int 0)) (mCons (m2 oAddA (m2 oAddA (m2 oAddA (m1 (oFld [6] "height") (mV 0)) (mV 1)) (mV 1)) (mV 1)) (mCons (mN oTup (mCons (mC (.str "rule")) (mCons (mN oTup mNil) (mCons (m1 (oFld [6] "width") (mV 0)) (mCons (mV 1) mNil))))) mNil)))) (gSet 2))
  (mRet (mMake 6 4 [] F_Boxdd_initdd (mCons (m1 (oFld [6] "width") (mV 0)) (mCons (m2 oAddA (m2 oAddA (m2 oIx (mV 2) (mC (.int 1))) (mV 1)) (mV 1)) (mCons (m1 (oFld [6] "depth") (mV 0)) (mCons (m2 oAddA (m1 (oFld [6] "marks") (mV 0)) (mN oLst (mCons (mV 2) mNil))) mNil)))))))
def F_law_over : List D → RF := fun ds => toRF [] (m_law_over () (start0 N_law_over ds))
def m_law_size (_ : Unit) : Ro → RS := (mRet (m2 oIx (mN oTup (mCons (mC (.int 0)) (mCons (mC (.int 0)) (mCons (mC (.int 0)) (mCons (mC (.int 0)) (mCons (mC (.int 1)) (mCons (mC (.int 1)) (mCons (mC (.int 2)) (mCons (mC (.int 2)) mNil))))))))) (mV 0)))
def F_law_size : List D → RF := fun ds => toRF [] (m_law_size () (start0 N_law_size ds))
def m_law_under (_ : Unit) : Ro → RS := (mSeq (mAsg (m2 oAddA (m1 (oFld [6] "depth") (mV 0)) (m2 oMulI (mC (.int 4)) (mV 1))) (gSet 2))
  (mRet (mMake 6 4 [] F_Boxdd_initdd (mCons (m1 (oFld [6] "width") (mV 0)) (mCons (m1 (oFld [6] "height") (mV 0)) (mCons (m2 oAddA (mV 2) (mV 1)) (mCons (m2 oAddA (m1 (oFld [6] "marks") (mV 0)) (mN oLst (mCons (mN oTup (mCons (mC (.int 0)) (mCons (m2 oSub (mC (.int 0)) (mV 2)) (mCons (mN oTup (mCons (mC (.str "rule")) (mCons (mN oTup mNil) (mCons (m1 (oFld [6] "width") (mV 0)) (mCons (mV 1) mNil))))) mNil)))) mNil))) mNil)))))))
def F_law_under : List D → RF := fun ds => toRF [] (m_law_under () (start0 N_law_under ds))
def m_check_fonts (_ : Unit) : Ro → RS := (mIfS (mNot (mT (mN (oIsi kitCs) (mCons (mV 0) (mCons (mC (.cls 5)) mNil))))) (fun _ => .bad) mNx)
def F_check_fonts : List D → RF := fun ds => toRF [] (m_check_fonts () (start0 N_check_fonts ds))
def m_is_path (_ : Unit) : Ro → RS := (mRet (mAndV (mN (oIsi kitCs) (mCons (mV 0) (mCons (mC (.ty "tuple")) mNil))) (mN oAll (mCons (mLc (fun ρ => ((mV 0) ρ).bind oSeq) (gSet 1) mYes (mAndV (mCallF [none] [] [] F_is_integer (mCons (mV 1) mNil)) (m2 oGe (mV 1) (mC (.int 0)))) [1]) mNil))))
def F_is_path : List D → RF := fun ds => toRF [] (m_is_path () (start0 N_is_path ds))
def m_is_whole (_ : Unit) : Ro → RS := (mRet (mCallF [none, none, none] [] [] F_is_between (mCons (mV 0) (mCons (m1 oNeg (mC k_MOST)) (mCons (mC k_MOST) mNil)))))
def F_is_whole : List D → RF := fun ds => toRF [] (m_is_whole () (start0 N_is_whole ds))
def m_is_mark (_ : Unit) : Ro → RS := (mSeq (mIfS (mOr (mNot (mT (mN (oIsi kitCs) (mCons (mV 0) (mCons (mC (.ty "tuple")) mNil))))) (mOr (mT (m2 oLt (mN oLenS (mCons (mV 0) mNil)) (mC (.int 2)))) (mOr (mNot (mT (mCallF [none] [] [] F_is_path (mCons (m2 oIx (mV 0) (mC (.int 1))) mNil)))) (mNot (mT (mN (oIsi kitCs) (mCons (m2 oIx (mV 0) (mC (.int 0))) (mCons (mC (.ty "str")) mNil)))))))) (mRet (mC (.bl false))) mNx)
  (mSeq (mIfS (mT (m2 oEq (m2 oIx (mV 0) (mC (.int 0))) (mC (.str "rule")))) (mRet (mAndV (m2 oEq (mN oLenS (mCons (mV 0) mNil)) (mC (.int 4))) (mAndV (mCallF [none] [] [] F_is_whole (mCons (m2 oIx (mV 0) (mC (.int 2))) mNil)) (mCallF [none] [] [] F_is_whole (mCons (m2 oIx (mV 0) (mC (.int 3))) mNil))))) mNx)
  (mSeq (mIfS (mOr (mT (m2 oNe (m2 oIx (mV 0) (mC (.int 0))) (mC (.str "glyph")))) (mT (m2 oNe (mN oLenS (mCons (mV 0) mNil)) (mC (.int 5))))) (mRet (mC (.bl false))) mNx)
  (mRet (mAndV (mCallF [none, none, none] [] [] F_is_between (mCons (m2 oIx (mV 0) (mC (.int 2))) (mCons (mC (.int 0)) (mCons (mC (.int 3)) mNil)))) (mAndV (mCallF [none, none, none] [] [] F_is_between (mCons (m2 oIx (mV 0) (mC (.int 3))) (mCons (mC (.int 0)) (mCons (mC (.int 2)) mNil)))) (mCallF [none] [] [] F_is_name (mCons (m2 oIx (mV 0) (mC (.int 4))) mNil))))))))
def F_is_mark : List D → RF := fun ds => toRF [] (m_is_mark () (start0 N_is_mark ds))
def m_is_placed (_ : Unit) : Ro → RS := (mRet (mAndV (mCallF [none, none] [] [] F_is_tuple (mCons (mV 0) (mCons (mC (.int 3)) mNil))) (mAndV (mCallF [none] [] [] F_is_whole (mCons (m2 oIx (mV 0) (mC (.int 0))) mNil)) (mAndV (mCallF [none] [] [] F_is_whole (mCons (m2 oIx (mV 0) (mC (.int 1))) mNil)) (mCallF [none] [] [] F_is_mark (mCons (m2 oIx (mV 0) (mC (.int 2))) mNil))))))
def F_is_placed : List D → RF := fun ds => toRF [] (m_is_placed () (start0 N_is_placed ds))
def m_check_box (_ : Unit) : Ro → RS := (mSeq (mIfS (mNot (mT (mN (oIsi kitCs) (mCons (mV 0) (mCons (mC (.cls 6)) mNil))))) (fun _ => .bad) mNx)
  (mSeq (mFor (fun ρ => ((mCons (mN oTup (mCons (mC (.str "width")) (mCons (mC (.str "height")) (mCons (mC (.str "depth")) mNil)))) (mCons (mCallF [none] [] [] F_sizes_of (mCons (mV 0) mNil)) mNil)) ρ).bind oZip) (gTupD 2 (gsCons (gSet 1) (gsCons (gSet 2) gsNil))) (mIfS (mNot (mT (mCallF [none] [] [] F_is_whole (mCons (mV 2) mNil)))) (fun _ => .bad) mNx))
  (mIfS (mOr (mNot (mT (mN (oIsi kitCs) (mCons (m1 (oFld [6] "marks") (mV 0)) (mCons (mC (.ty "list")) mNil))))) (mNot (mT (mN oAll (mCons (mLc (fun ρ => ((m1 (oFld [6] "marks") (mV 0)) ρ).bind oSeq) (gSet 3) mYes (mCallF [none] [] [] F_is_placed (mCons (mV 3) mNil)) [3]) mNil))))) (fun _ => .bad) mNx)))
def F_check_box : List D → RF := fun ds => toRF [] (m_check_box () (start0 N_check_box ds))
def m_check_part (_ : Unit) : Ro → RS := (mTry (mDrop (mCallF [none] [] [] F_check_box (mCons (mV 1) mNil))) [⟨mt_InvalidBox, none, fun x => (fun _ => .bad)⟩])
def F_check_part : List D → RF := fun ds => toRF [] (m_check_part () (start0 N_check_part ds))
def m_check_style (_ : Unit) : Ro → RS := (mIfS (mNot (mT (mCallF [none, none, none] [] [] F_is_between (mCons (mV 0) (mCons (mC (.int 0)) (mCons (mC (.int 7)) mNil)))))) (fun _ => .bad) mNx)
def F_check_style : List D → RF := fun ds => toRF [] (m_check_style () (start0 N_check_style ds))
def m_check_inner (_ : Unit) : Ro → RS := (mSeq (mDrop (mCallF [none] [] [] F_check_fonts (mCons (mV 0) mNil)))
  (mSeq (mDrop (mCallF [none] [] [] F_check_style (mCons (mV 1) mNil)))
  (mDrop (mCallF [none, none] [] [] F_check_part (mCons (mC (.str "inner")) (mCons (mV 2) mNil))))))
def F_check_inner : List D → RF := fun ds => toRF [] (m_check_inner () (start0 N_check_inner ds))
def m_Fonts_amount (_ : Unit) : Ro → RS := (mRet (m2 oIxA (m2 oIx (m1 (oFld [5] "number_rows") (mV 0)) (mV 1)) (mV 2)))
def F_Fonts_amount : List D → RF := fun ds => toRF [] (m_Fonts_amount () (start0 N_Fonts_amount ds))
def m_rule_box (_ : Unit) : Ro → RS := (mRet (mMake 6 4 [] F_Boxdd_initdd (mCons (mV 1) (mCons (mV 2) (mCons (mC (.int 0)) (mCons (mN oLst (mCons (mN oTup (mCons (mC (.int 0)) (mCons (mC (.int 0)) (mCons (mN oTup (mCons (mC (.str "rule")) (mCons (mV 0) (mCons (mV 1) (mCons (mV 2) mNil))))) mNil)))) mNil)) mNil))))))
def F_rule_box : List D → RF := fun ds => toRF [] (m_rule_box () (start0 N_rule_box ds))
def m_size_of (_ : Unit) : Ro → RS := (mRet (mN oMax2 (mCons (mC (.int 0)) (mCons (m2 oSub (m2 oFdiv (mV 0) (mC (.int 2))) (mC (.int 1))) mNil))))
def F_size_of : List D → RF := fun ds => toRF [] (m_size_of () (start0 N_size_of ds))
def m_marks_moved (_ : Unit) : Ro → RS := (mRet (mLc (fun ρ => ((m1 (oFld [6] "marks") (mV 0)) ρ).bind oSeq) (gTupD 3 (gsCons (gSet 3) (gsCons (gSet 4) (gsCons (gSet 5) gsNil)))) mYes (mN oTup (mCons (m2 oAddA (mV 3) (mV 1)) (mCons (m2 oAddA (mV 4) (mV 2)) (mCons (mV 5) mNil)))) [3, 4, 5]))
def F_marks_moved : List D → RF := fun ds => toRF [] (m_marks_moved () (start0 N_marks_moved ds))
def m_together_box (_ : Unit) : Ro → RS := (mSeq (mAsg (mN oLst mNil) (gSet 4))
  (mSeq (mFor (fun ρ => ((mV 3) ρ).bind oSeq) (gTupD 3 (gsCons (gSet 5) (gsCons (gSet 6) (gsCons (gSet 7) gsNil)))) (mMut 4 fExtO (mCallF [none, none, none] [] [] F_marks_moved (mCons (mV 5) (mCons (mV 6) (mCons (mV 7) mNil))))))
  (mRet (mB clean (mMake 6 4 [] F_Boxdd_initdd (mCons (mV 0) (mCons (mV 1) (mCons (mV 2) (mCons (mV 4) mNil)))))))))
def F_together_box : List D → RF := fun ds => toRF [] (m_together_box () (start0 N_together_box ds))
def m_over_box (_ : Unit) : Ro → RS := (mSeq (mAsg (mMeth 5 "amount" [none, none] [] [] F_Fonts_amount (mV 0) (mCons (mCallF [none] [] [] F_size_of (mCons (mV 1) mNil)) (mCons (mC (.str "rule")) mNil))) (gSet 4))
  (mSeq (mAsg (mCallF [none, none, none] [] [] F_rule_box (mCons (mV 2) (mCons (m1 (oFld [6] "width") (mV 3)) (mCons (mV 4) mNil)))) (gSet 5))
  (mSeq (mAsg (m2 oAddA (m1 (oFld [6] "height") (mV 3)) (m2 oMulI (mC (.int 5)) (mV 4))) (gSet 6))
  (mRet (mCallF [none, none, none, none] [] [] F_together_box (mCons (m1 (oFld [6] "width") (mV 3)) (mCons (mV 6) (mCons (m1 (oFld [6] "depth") (mV 3)) (mCons (mN oLst (mCons (mN oTup (mCons (mV 3) (mCons (mC (.int 0)) (mCons (mC (.int 0)) mNil)))) (mCons (mN oTup (mCons (mV 5) (mCons (mC (.int 0)) (mCons (m2 oAddA (m1 (oFld [6] "height") (mV 3)) (m2 oMulI (mC (.int 3)) (mV 4))) mNil)))) mNil))) mNil)))))))))
def F_over_box : List D → RF := fun ds => toRF [] (m_over_box () (start0 N_over_box ds))
def m_overlined (_ : Unit) : Ro → RS := (mSeq (mDrop (mCallF [none, none, none] [] [] F_check_inner (mCons (mV 0) (mCons (mV 1) (mCons (mV 2) mNil)))))
  (mRet (mCallF [none, none, none, none] [] [] F_over_box (mCons (mV 0) (mCons (mV 1) (mCons (mN oTup mNil) (mCons (mV 2) mNil)))))))
def F_overlined : List D → RF := fun ds => toRF [] (m_overlined () (start0 N_overlined ds))
def m_under_box (_ : Unit) : Ro → RS := (mSeq (mAsg (mMeth 5 "amount" [none, none] [] [] F_Fonts_amount (mV 0) (mCons (mCallF [none] [] [] F_size_of (mCons (mV 1) mNil)) (mCons (mC (.str "rule")) mNil))) (gSet 4))
  (mSeq (mAsg (mCallF [none, none, none] [] [] F_rule_box (mCons (mV 2) (mCons (m1 (oFld [6] "width") (mV 3)) (mCons (mV 4) mNil)))) (gSet 5))
  (mSeq (mAsg (m2 oAddA (m1 (oFld [6] "depth") (mV 3)) (m2 oMulI (mC (.int 5)) (mV 4))) (gSet 6))
  (mRet (mCallF [none, none, none, none] [] [] F_together_box (mCons (m1 (oFld [6] "width") (mV 3)) (mCons (m1 (oFld [6] "height") (mV 3)) (mCons (mV 6) (mCons (mN oLst (mCons (mN oTup (mCons (mV 3) (mCons (mC (.int 0)) (mCons (mC (.int 0)) mNil)))) (mCons (mN oTup (mCons (mV 5) (mCons (mC (.int 0)) (mCons (m2 oSub (m2 oSub (mC (.int 0)) (m1 (oFld [6] "depth") (mV 3))) (m2 oMulI (mC (.int 4)) (mV 4))) mNil)))) mNil))) mNil)))))))))
def F_under_box : List D → RF := fun ds => toRF [] (m_under_box () (start0 N_under_box ds))
def m_underlined (_ : Unit) : Ro → RS := (mSeq (mDrop (mCallF [none, none, none] [] [] F_check_inner (mCons (mV 0) (mCons (mV 1) (mCons (mV 2) mNil)))))
  (mRet (mCallF [none, none, none, none] [] [] F_under_box (mCons (mV 0) (mCons (mV 1) (mCons (mN oTup mNil) (mCons (mV 2) mNil)))))))
def F_underlined : List D → RF := fun ds => toRF [] (m_underlined () (start0 N_underlined ds))
def m_law_right (_ : Unit) : Ro → RS := (mSeq (mPar 5 6 (mCons (m2 oIxA (m2 oIx (m2 oIxA (mV 1) (mC (.str "numbers"))) (mCallF [none] [] [] F_law_size (mCons (mV 2) mNil))) (mC (.str "rule"))) (mCons (mMake 6 4 [] F_Boxdd_initdd (mCons (m1 (oFld [6] "width") (mV 3)) (mCons (m1 (oFld [6] "height") (mV 3)) (mCons (m1 (oFld [6] "depth") (mV 3)) (mCons (m1 (oFld [6] "marks") (mV 3)) mNil))))) mNil)))
  (mSeq (mFor (fun ρ => ((mCons (mC (.int 2)) mNil) ρ).bind oRange) (gSet 4) (mSeq (mPar 7 8 (mCons (mCallF [none, none, none] [] [] F_overlined (mCons (mV 0) (mCons (mV 2) (mCons (mV 3) mNil)))) (mCons (mCallF [none, none, none] [] [] F_underlined (mCons (mV 0) (mCons (mV 2) (mCons (mV 3) mNil)))) mNil)))
  (mSeq (mIfS (mB (fun _ => true) (mOr (mT (m2 (oOwn 6 F_Boxdd_eqdd (!·)) (mV 7) (mCallF [none, none] [] [] F_law_over (mCons (mV 3) (mCons (mV 5) mNil))))) (mT (m2 (oOwn 6 F_Boxdd_eqdd (!·)) (mV 8) (mCallF [none, none] [] [] F_law_under (mCons (mV 3) (mCons (mV 5) mNil))))))) (mRet (mC (.bl false))) mNx)
  (mSeq (mIfS (mB (fun _ => true) (mOr (mT (m2 (oOwn 6 F_Boxdd_eqdd (!·)) (mCallF [none, none, none] [] [] F_underlined (mCons (mV 0) (mCons (mV 2) (mCons (mV 7) mNil)))) (mCallF [none, none] [] [] F_law_under (mCons (mV 7) (mCons (mV 5) mNil))))) (mT (m2 (oOwn 6 F_Boxdd_eqdd id) (mCallF [none, none, none] [] [] F_overlined (mCons (mV 0) (mCons (mV 2) (mCons (mV 7) mNil)))) (mV 7))))) (mRet (mC (.bl false))) mNx)
  (mSeq (mClrF [6] 7 "marks")
  (mMutF [6] 8 "marks" fApp (mC .non)))))))
  (mRet (m2 (oOwn 6 F_Boxdd_eqdd id) (mV 3) (mV 6)))))
def F_law_right : List D → RF := fun ds => toRF [] (m_law_right () (start0 N_law_right ds))
def m_law_words (_ : Unit) : Ro → RS := (mSeq (mAsg (mC (.str "xheight quad up1 up2 up3 down1 down2 sup1 sup2 sup3 sub1 sub2 supdrop subdrop")) (gSet 0))
  (mSeq (mAsg (mC (.str "scriptspace factor short empty thin medium thick baseline apart column indent")) (gSet 1))
  (mRet (mN oTup (mCons (m1 oWords (m2 oAddA (mV 0) (mC (.str " delim1 delim2 axis rule gap1 gap2 gap3 gap4 gap5")))) (mCons (m1 oWords (mV 1)) mNil))))))
def F_law_words : List D → RF := fun ds => toRF [] (m_law_words () (start0 N_law_words ds))
def m_law_world (_ : Unit) : Ro → RS := (mSeq (mAsg (mCall0 F_law_words) (gTupD 2 (gsCons (gSet 5) (gsCons (gSet 6) gsNil))))
  (mSeq (mAsg (mN oLst mNil) (gSet 2))
  (mSeq (mFor (fun ρ => ((mCons (mC (.int 3)) mNil) ρ).bind oRange) (gSet 3) (mSeq (mAsg oDict0 (gSet 7))
  (mSeq (mFor (fun ρ => ((mCons (mV 5) mNil) ρ).bind oEnum) (gTupD 2 (gsCons (gSet 8) (gsCons (gSet 9) gsNil))) (mSeq (mAsg (mN oInt (mCons (m2 oIx (mV 0) (m2 oAddA (m2 oMulI (mC (.int 23)) (mV 3)) (mV 8))) mNil)) (gSet 10))
  (mSetK 7 (mV 9) (m2 oAddA (m2 oMulI (m2 oIx (mN oLst (mCons (mV 10) (mCons (m2 oMod (mN oInt (mCons (mV 10) mNil)) (mC (.int 60))) (mCons (m2 oFdiv (mV 10) (mC (.int 3))) (mCons (mC (.int 0)) mNil))))) (m2 oMod (mN oInt (mCons (m2 oFdiv (mV 10) (mC (.int 7))) mNil)) (mC (.int 4)))) (mV 1)) (m2 oMod (mN oInt (mCons (mV 10) mNil)) (mC (.int 3)))))))
  (mMut 2 fApp (mMv 7)))))
  (mSeq (mAsg (mN oDictP (mCons (mLc (fun ρ => ((mCons (mV 6) mNil) ρ).bind oEnum) (gTupD 2 (gsCons (gSet 8) (gsCons (gSet 9) gsNil))) mYes (mN oTup (mCons (mV 9) (mCons (m2 oMulI (m2 oMod (mN oInt (mCons (m2 oIx (mV 0) (m2 oAddA (mC (.int 69)) (mV 8))) mNil)) (mC (.int 900))) (mV 1)) mNil))) [8, 9]) mNil)) (gSet 4))
  (mSeq (mSetK 4 (mC (.str "factor")) (m2 oMod (mN oInt (mCons (m2 oIx (mV 0) (mC (.int 70))) mNil)) (mC (.int 1001))))
  (mRet (mDisp ["numbers", "settings"] (mCons (mMv 2) (mCons (mMv 4) mNil)))))))))
def F_law_world : List D → RF := fun ds => toRF [] (m_law_world () (start0 N_law_world ds))
def m_law (_ : Unit) : Ro → RS := (mSeq (mFor (fun ρ => ((m2 oAddA (mSl (mV 0) mNone (fun ρ => ((mC (.int 5)) ρ).bind oSome)) (mSl (mN oLst (mCons (mC (.int 19)) mNil)) (fun ρ => ((mN oLenS (mCons (mV 0) mNil)) ρ).bind oSome) mNone)) ρ).bind oSeq) (gSet 1) (mSeq (mAsg (mCallF [none, none] [] [] F_law_digits (mCons (mV 1) (mCons (mC (.int 130)) mNil))) (gSet 2))
  (mSeq (mAsg (m2 oIx (mN oLst (mCons (mC (.int 1)) (mCons (mC (.int 1)) (mCons (mC (.int 7)) (mCons (m2 oPow (mC (.int 10)) (mC (.int 40))) mNil))))) (m2 oMod (mN oInt (mCons (m2 oIx (mV 2) (mC (.int 100))) mNil)) (mC (.int 4)))) (gSet 3))
  (mSeq (mAsg (mCallF [none, none] [] [] F_law_world (mCons (mV 2) (mCons (mV 3) mNil))) (gSet 4))
  (mSeq (mAsg (mCallF [none] [] [] F_law_fonts (mCons (mV 4) mNil)) (gSet 5))
  (mSeq (mFor (fun ρ => ((mCons (mC (.int 4)) mNil) ρ).bind oRange) (gSet 6) (mSeq (mAsg (mCallF [none, none, none] [] [] F_law_box (mCons (mSl (mV 2) (fun ρ => ((m2 oAddA (mC (.int 101)) (m2 oMulI (mC (.int 6)) (mV 6))) ρ).bind oSome) mNone) (mCons (mV 3) (mCons (mV 6) mNil)))) (gSet 7))
  (mFor (fun ρ => ((m2 oAddA (m1 oLRg (mC (.int 8))) (mN oLst (mCons (mC (.int 0)) mNil))) ρ).bind oSeq) (gSet 8) (mIfS (mNot (mT (mCallF [none, none, none, none] [] [] F_law_right (mCons (mV 5) (mCons (mV 4) (mCons (mV 8) (mCons (mV 7) mNil))))))) (mRet (mC (.bl false))) mNx))))
  (mIfS (mT (m2 (oOwn 6 F_Boxdd_eqdd (!·)) (mCallF [none, none, none] [] [] F_overlined (mCons (mV 5) (mCons (mC (.int 2)) (mCons (mMake 6 3 [.tup []] F_Boxdd_initdd (mCons (mC (.int 0)) (mCons (mC (.int 0)) (mCons (mC (.int 0)) mNil)))) mNil)))) (mCallF [none, none] [] [] F_law_over (mCons (mMake 6 3 [.tup []] F_Boxdd_initdd (mCons (mC (.int 0)) (mCons (mC (.int 0)) (mCons (mC (.int 0)) mNil)))) (mCons (m2 oIxA (m2 oIx (m2 oIxA (mV 4) (mC (.str "numbers"))) (mC (.int 0))) (mC (.str "rule"))) mNil))))) (mRet (mC (.bl false))) mNx)))))))
  (mRet (mC (.bl true))))
def F_law : List D → RF := fun ds => toRF [] (m_law () (start0 N_law ds))
structure Txt (w : World) (K : PySem.W.Frag) (mg : Str → Option Value) (cA : Cid → Addr) (ad : Nat → Addr) (fd : Nat → FuncData) : Prop where
  F_sizes_of : FunG K "sizes_of" "sizes_of" s_sizes_of (ad 0) (fd 0)
  b_sizes_of : L2.Binds K (fd 0) ["box"] []
  g_sizes_of : mg "sizes_of" = some (.ref (ad 0))
  F_Boxdd_eqdd : FunG K "__eq__" "Box.__eq__" s_Boxdd_eqdd (ad 1) (fd 1)
  b_Boxdd_eqdd : L2.Binds K (fd 1) ["self", "other"] []
  F_Boxdd_initdd : FunG K "__init__" "Box.__init__" s_Boxdd_initdd (ad 2) (fd 2)
  b_Boxdd_initdd : L2.Binds K (fd 2) ["self", "width", "height", "depth", "marks"] []
  bt_Boxdd_initdd : ∃ e, KTup K e [] ∧ L2.Binds K (fd 2) ["self", "width", "height", "depth", "marks"] [Value.ref e]
  F_law_box : FunG K "_law_box" "_law_box" s_law_box (ad 3) (fd 3)
  b_law_box : L2.Binds K (fd 3) ["digits", "grow", "at"] []
  g_law_box : mg "_law_box" = some (.ref (ad 3))
  F_law_digits : FunG K "_law_digits" "_law_digits" s_law_digits (ad 4) (fd 4)
  b_law_digits : L2.Binds K (fd 4) ["cell", "many"] []
  g_law_digits : mg "_law_digits" = some (.ref (ad 4))
  F_is_circle : FunG K "is_circle" "is_circle" s_is_circle (ad 5) (fd 5)
  b_is_circle : L2.Binds K (fd 5) ["face", "name"] []
  g_is_circle : mg "is_circle" = some (.ref (ad 5))
  F_is_integer : FunG K "is_integer" "is_integer" s_is_integer (ad 6) (fd 6)
  b_is_integer : L2.Binds K (fd 6) ["thing"] []
  g_is_integer : mg "is_integer" = some (.ref (ad 6))
  F_is_between : FunG K "is_between" "is_between" s_is_between (ad 7) (fd 7)
  b_is_between : L2.Binds K (fd 7) ["thing", "least", "most"] []
  g_is_between : mg "is_between" = some (.ref (ad 7))
  F_is_name : FunG K "is_name" "is_name" s_is_name (ad 8) (fd 8)
  b_is_name : L2.Binds K (fd 8) ["thing"] []
  g_is_name : mg "is_name" = some (.ref (ad 8))
  F_is_tuple : FunG K "is_tuple" "is_tuple" s_is_tuple (ad 9) (fd 9)
  b_is_tuple : L2.Binds K (fd 9) ["thing", "many"] []
  g_is_tuple : mg "is_tuple" = some (.ref (ad 9))
  F_is_glyph : FunG K "is_glyph" "is_glyph" s_is_glyph (ad 10) (fd 10)
  b_is_glyph : L2.Binds K (fd 10) ["face", "glyph"] []
  g_is_glyph : mg "is_glyph" = some (.ref (ad 10))
  F_is_pair : FunG K "is_pair" "is_pair" s_is_pair (ad 11) (fd 11)
  b_is_pair : L2.Binds K (fd 11) ["face", "pair", "deed"] []
  g_is_pair : mg "is_pair" = some (.ref (ad 11))
  F_check_face : FunG K "check_face" "check_face" s_check_face (ad 12) (fd 12)
  b_check_face : L2.Binds K (fd 12) ["face", "place"] []
  g_check_face : mg "check_face" = some (.ref (ad 12))
  F_check_families : FunG K "check_families" "check_families" s_check_families (ad 13) (fd 13)
  b_check_families : L2.Binds K (fd 13) ["families"] []
  g_check_families : mg "check_families" = some (.ref (ad 13))
  F_most_of : FunG K "most_of" "most_of" s_most_of (ad 14) (fd 14)
  b_most_of : L2.Binds K (fd 14) ["word"] []
  g_most_of : mg "most_of" = some (.ref (ad 14))
  F_check_words : FunG K "check_words" "check_words" s_check_words (ad 15) (fd 15)
  b_check_words : L2.Binds K (fd 15) ["values", "words", "part", "place"] []
  g_check_words : mg "check_words" = some (.ref (ad 15))
  F_copied_face : FunG K "copied_face" "copied_face" s_copied_face (ad 16) (fd 16)
  b_copied_face : L2.Binds K (fd 16) ["face"] []
  g_copied_face : mg "copied_face" = some (.ref (ad 16))
  F_Fontsdd_initdd : FunG K "__init__" "Fonts.__init__" s_Fontsdd_initdd (ad 17) (fd 17)
  bd_Fontsdd_initdd : L2.Binds K (fd 17) ["self", "families", "numbers", "settings", "skew"] [Value.none]
  F_law_fonts : FunG K "_law_fonts" "_law_fonts" s_law_fonts (ad 18) (fd 18)
  b_law_fonts : L2.Binds K (fd 18) ["world"] []
  g_law_fonts : mg "_law_fonts" = some (.ref (ad 18))
  F_law_over : FunG K "_law_over" "_law_over" s_law_over (ad 19) (fd 19)
  b_law_over : L2.Binds K (fd 19) ["box", "thick"] []
  g_law_over : mg "_law_over" = some (.ref (ad 19))
  F_law_size : FunG K "_law_size" "_law_size" s_law_size (ad 20) (fd 20)
  b_law_size : L2.Binds K (fd 20) ["style"] []
  g_law_size : mg "_law_size" = some (.ref (ad 20))
  F_law_under : FunG K "_law_under" "_law_under" s_law_under (ad 21) (fd 21)
  b_law_under : L2.Binds K (fd 21) ["box", "thick"] []
  g_law_under : mg "_law_under" = some (.ref (ad 21))
  F_check_fonts : FunG K "check_fonts" "check_fonts" s_check_fonts (ad 22) (fd 22)
  b_check_fonts : L2.Binds K (fd 22) ["fonts"] []
  g_check_fonts : mg "check_fonts" = some (.ref (ad 22))
  F_is_path : FunG K "is_path" "is_path" s_is_path (ad 23) (fd 23)
  b_is_path : L2.Binds K (fd 23) ["thing"] []
  g_is_path : mg "is_path" = some (.ref (ad 23))
  F_is_whole : FunG K "is_whole" "is_whole" s_is_whole (ad 24) (fd 24)
  b_is_whole : L2.Binds K (fd 24) ["thing"] []
  g_is_whole : mg "is_whole" = some (.ref (ad 24))
  F_is_mark : FunG K "is_mark" "is_mark" s_is_mark (ad 25) (fd 25)
  b_is_mark : L2.Binds K (fd 25) ["thing"] []
  g_is_mark : mg "is_mark" = some (.ref (ad 25))
  F_is_placed : FunG K "is_placed" "is_placed" s_is_placed (ad 26) (fd 26)
  b_is_placed : L2.Binds K (fd 26) ["thing"] []
  g_is_placed : mg "is_placed" = some (.ref (ad 26))
  F_check_box : FunG K "check_box" "check_box" s_check_box (ad 27) (fd 27)
  b_check_box : L2.Binds K (fd 27) ["box"] []
  g_check_box : mg "check_box" = some (.ref (ad 27))
  F_check_part : FunG K "check_part" "check_part" s_check_part (ad 28) (fd 28)
  b_check_part : L2.Binds K (fd 28) ["part", "value"] []
  g_check_part : mg "check_part" = some (.ref (ad 28))
  F_check_style : FunG K "check_style" "check_style" s_check_style (ad 29) (fd 29)
  b_check_style : L2.Binds K (fd 29) ["style"] []
  g_check_style : mg "check_style" = some (.ref (ad 29))
  F_check_inner : FunG K "check_inner" "check_inner" s_check_inner (ad 30) (fd 30)
  b_check_inner : L2.Binds K (fd 30) ["fonts", "style", "inner"] []
  g_check_inner : mg "check_inner" = some (.ref (ad 30))
  F_Fonts_amount : FunG K "amount" "Fonts.amount" s_Fonts_amount (ad 31) (fd 31)
  b_Fonts_amount : L2.Binds K (fd 31) ["self", "size", "word"] []
  F_rule_box : FunG K "rule_box" "rule_box" s_rule_box (ad 32) (fd 32)
  b_rule_box : L2.Binds K (fd 32) ["path", "width", "height"] []
  g_rule_box : mg "rule_box" = some (.ref (ad 32))
  F_size_of : FunG K "size_of" "size_of" s_size_of (ad 33) (fd 33)
  b_size_of : L2.Binds K (fd 33) ["style"] []
  g_size_of : mg "size_of" = some (.ref (ad 33))
  F_marks_moved : FunG K "marks_moved" "marks_moved" s_marks_moved (ad 34) (fd 34)
  b_marks_moved : L2.Binds K (fd 34) ["box", "dx", "dy"] []
  g_marks_moved : mg "marks_moved" = some (.ref (ad 34))
  F_together_box : FunG K "together_box" "together_box" s_together_box (ad 35) (fd 35)
  b_together_box : L2.Binds K (fd 35) ["width", "height", "depth", "placed"] []
  g_together_box : mg "together_box" = some (.ref (ad 35))
  F_over_box : FunG K "over_box" "over_box" s_over_box (ad 36) (fd 36)
  b_over_box : L2.Binds K (fd 36) ["fonts", "style", "path", "inner"] []
  g_over_box : mg "over_box" = some (.ref (ad 36))
  F_overlined : FunG K "overlined" "overlined" s_overlined (ad 37) (fd 37)
  b_overlined : L2.Binds K (fd 37) ["fonts", "style", "inner"] []
  g_overlined : mg "overlined" = some (.ref (ad 37))
  F_under_box : FunG K "under_box" "under_box" s_under_box (ad 38) (fd 38)
  b_under_box : L2.Binds K (fd 38) ["fonts", "style", "path", "inner"] []
  g_under_box : mg "under_box" = some (.ref (ad 38))
  F_underlined : FunG K "underlined" "underlined" s_underlined (ad 39) (fd 39)
  b_underlined : L2.Binds K (fd 39) ["fonts", "style", "inner"] []
  g_underlined : mg "underlined" = some (.ref (ad 39))
  F_law_right : FunG K "_law_right" "_law_right" s_law_right (ad 40) (fd 40)
  b_law_right : L2.Binds K (fd 40) ["fonts", "world", "style", "box"] []
  g_law_right : mg "_law_right" = some (.ref (ad 40))
  F_law_words : FunG K "_law_words" "_law_words" s_law_words (ad 41) (fd 41)
  b_law_words : L2.Binds K (fd 41) [] []
  g_law_words : mg "_law_words" = some (.ref (ad 41))
  F_law_world : FunG K "_law_world" "_law_world" s_law_world (ad 42) (fd 42)
  b_law_world : L2.Binds K (fd 42) ["digits", "grow"] []
  g_law_world : mg "_law_world" = some (.ref (ad 42))
  F_law : FunG K "law" "law" s_law (ad 43) (fd 43)
  b_law : L2.Binds K (fd 43) ["script"] []
  g_law : mg "law" = some (.ref (ad 43))
  g_Box : mg "Box" = some (.ref (cA 6))
  C_Box : Cls K (cA 6)
  M_Box : Mk K (cA 6) (ad 2)
  g_Fonts : mg "Fonts" = some (.ref (cA 5))
  C_Fonts : Cls K (cA 5)
  M_Fonts : Mk K (cA 5) (ad 17)
  m_Fonts_amount : Meth K (cA 5) "amount" (ad 31)
  q_Box : OwnQ K (cA 6) (ad 1)
  f_depth : FldOk K cA [6] "depth"
  f_family_rows : FldOk K cA [5] "family_rows"
  f_height : FldOk K cA [6] "height"
  f_marks : FldOk K cA [6] "marks"
  f_number_rows : FldOk K cA [5] "number_rows"
  f_setting_rows : FldOk K cA [5] "setting_rows"
  f_skew_name : FldOk K cA [5] "skew_name"
  f_width : FldOk K cA [6] "width"
  n_all : mg "all" = none
  n_bool : mg "bool" = none
  n_dict : mg "dict" = none
  n_enumerate : mg "enumerate" = none
  n_int : mg "int" = none
  n_isinstance : mg "isinstance" = none
  n_len : mg "len" = none
  n_list : mg "list" = none
  n_max : mg "max" = none
  n_range : mg "range" = none
  n_sorted : mg "sorted" = none
  n_str : mg "str" = none
  n_tuple : mg "tuple" = none
  n_zip : mg "zip" = none
  gc_LETTERS : ∃ u, mg "LETTERS" = some u ∧ KRep K cA k_LETTERS u
  gc_MOST : ∃ u, mg "MOST" = some u ∧ KRep K cA k_MOST u
  gc_MOST_FACTOR : ∃ u, mg "MOST_FACTOR" = some u ∧ KRep K cA k_MOST_FACTOR u
  gc_MOST_FAMILIES : ∃ u, mg "MOST_FAMILIES" = some u ∧ KRep K cA k_MOST_FAMILIES u
  gc_MOST_GLYPHS : ∃ u, mg "MOST_GLYPHS" = some u ∧ KRep K cA k_MOST_GLYPHS u
  gc_MOST_LETTERS : ∃ u, mg "MOST_LETTERS" = some u ∧ KRep K cA k_MOST_LETTERS u
  gc_SETTINGS : ∃ u, mg "SETTINGS" = some u ∧ KRep K cA k_SETTINGS u
  gc_WORDS : ∃ u, mg "WORDS" = some u ∧ KRep K cA k_WORDS u
  kit : Kit K cA kitCs
  g_InvalidBox : mg "InvalidBox" = some (.ref (cA 2))
  hm_InvalidBox : ∀ c' b, mt_InvalidBox c' = some b → PySem.W.exmOne K (.ref (cA c')) (.ref (cA 2)) = some b
section
variable {P : Program} {w : World} {K : PySem.W.Frag} {mg : Str → Option Value} {base : Heap} {cA : Cid → Addr} {ad : Nat → Addr} {fd : Nat → FuncData}
theorem sc_sizes_of : FnScope N_sizes_of ["box"] (defScope s_sizes_of) := ⟨rfl, rfl, rfl, by decide +kernel, rfl, by decide +kernel, by decide +kernel⟩
theorem ok_sizes_of (tx : Txt w K mg cA ad fd) : FnT P w K mg base cA 3 (ad 0) (fd 0) ["box"] [] F_sizes_of := by
  have nd : (N_sizes_of).Nodup := sc_sizes_of.nd
  refine fn_ok (x := "sizes_of") [] tx.F_sizes_of sc_sizes_of rfl fun cdv A outer s H vs E hr => ?_
  have hu := hu_ofR hr
  have tk : Takes (cxT P w K mg base N_sizes_of "sizes_of" s_sizes_of (ad 0) cdv A outer s H E) (lcT cA E [] vs).W := takes_of rfl rfl rfl rfl
  have pv : PassesOwn (model P w) (cxT P w K mg base N_sizes_of "sizes_of" s_sizes_of (ad 0) cdv A outer s H E).A (cxT P w K mg base N_sizes_of "sizes_of" s_sizes_of (ad 0) cdv A outer s H E).env (cxT P w K mg base N_sizes_of "sizes_of" s_sizes_of (ad 0) cdv A outer s H E).xe := passes_of rfl
  exact (db_one (ds_ret (de_tup (da_cons (de_fld (cs := [6]) tx.f_width (de_v 0)) (da_cons (de_fld (cs := [6]) tx.f_height (de_v 0)) (da_cons (de_fld (cs := [6]) tx.f_depth (de_v 0)) da_nil))))))
theorem sc_Boxdd_eqdd : FnScope N_Boxdd_eqdd ["self", "other"] (defScope s_Boxdd_eqdd) := ⟨rfl, rfl, rfl, by decide +kernel, rfl, by decide +kernel, by decide +kernel⟩
theorem ok_Boxdd_eqdd (tx : Txt w K mg cA ad fd) : FnT P w K mg base cA 4 (ad 1) (fd 1) ["self", "other"] [] F_Boxdd_eqdd := by
  have nd : (N_Boxdd_eqdd).Nodup := sc_Boxdd_eqdd.nd
  refine fn_ok (x := "__eq__") [] tx.F_Boxdd_eqdd sc_Boxdd_eqdd rfl fun cdv A outer s H vs E hr => ?_
  have hu := hu_ofR hr
  have tk : Takes (cxT P w K mg base N_Boxdd_eqdd "Box.__eq__" s_Boxdd_eqdd (ad 1) cdv A outer s H E) (lcT cA E [] vs).W := takes_of rfl rfl rfl rfl
  have pv : PassesOwn (model P w) (cxT P w K mg base N_Boxdd_eqdd "Box.__eq__" s_Boxdd_eqdd (ad 1) cdv A outer s H E).A (cxT P w K mg base N_Boxdd_eqdd "Box.__eq__" s_Boxdd_eqdd (ad 1) cdv A outer s H E).env (cxT P w K mg base N_Boxdd_eqdd "Box.__eq__" s_Boxdd_eqdd (ad 1) cdv A outer s H E).xe := passes_of rfl
  exact (db_cons (ds_if (dt_w (dw_or (dt_not (dt_of (de_isi tx.kit tx.n_isinstance (da_cons (de_v 1) (da_cons (de_cls (c := 6) tx.g_Box) da_nil))))) (dw_or1 (dt_cmp (cr_ne hu) (de_call (ok_sizes_of tx) (hr.mono (by decide)) tk tx.g_sizes_of tx.F_sizes_of.kp tx.b_sizes_of .nil Dfl.nil (dl_cons (de_v 0) dl_nil)) (de_call (ok_sizes_of tx) (hr.mono (by decide)) tk tx.g_sizes_of tx.F_sizes_of.kp tx.b_sizes_of .nil Dfl.nil (dl_cons (de_v 1) dl_nil)))))) (db_one (ds_ret de_bl)) db_nil)
  (db_one (ds_ret (de_cmp (cr_eq hu) (de_fld (cs := [6]) tx.f_marks (de_v 0)) (de_fld (cs := [6]) tx.f_marks (de_v 1))))))
theorem sc_Boxdd_initdd : FnScope N_Boxdd_initdd ["self", "width", "height", "depth", "marks"] (defScope s_Boxdd_initdd) := ⟨rfl, rfl, rfl, by decide +kernel, rfl, by decide +kernel, by decide +kernel⟩
theorem ok_Boxdd_initdd (tx : Txt w K mg cA ad fd) : FnT P w K mg base cA 3 (ad 2) (fd 2) ["self", "width", "height", "depth", "marks"] [0] F_Boxdd_initdd := by
  have nd : (N_Boxdd_initdd).Nodup := sc_Boxdd_initdd.nd
  refine fn_ok (x := "__init__") [0] tx.F_Boxdd_initdd sc_Boxdd_initdd rfl fun cdv A outer s H vs E hr => ?_
  have hu := hu_ofR hr
  have tk : Takes (cxT P w K mg base N_Boxdd_initdd "Box.__init__" s_Boxdd_initdd (ad 2) cdv A outer s H E) (lcT cA E [0] vs).W := takes_of rfl rfl rfl rfl
  have pv : PassesOwn (model P w) (cxT P w K mg base N_Boxdd_initdd "Box.__init__" s_Boxdd_initdd (ad 2) cdv A outer s H E).A (cxT P w K mg base N_Boxdd_initdd "Box.__init__" s_Boxdd_initdd (ad 2) cdv A outer s H E).env (cxT P w K mg base N_Boxdd_initdd "Box.__init__" s_Boxdd_initdd (ad 2) cdv A outer s H E).xe := passes_of rfl
  exact (db_cons (ds_fld (cs := [6]) 0 tx.f_width (de_v 1))
  (db_cons (ds_fld (cs := [6]) 0 tx.f_height (de_v 2))
  (db_cons (ds_fld (cs := [6]) 0 tx.f_depth (de_v 3))
  (db_one (ds_fld (cs := [6]) 0 tx.f_marks (de_list tx.n_list (da_cons (de_v 4) da_nil)))))))
theorem sc_law_box : FnScope N_law_box ["digits", "grow", "at"] (defScope s_law_box) := ⟨rfl, rfl, rfl, by decide +kernel, rfl, by decide +kernel, by decide +kernel⟩
theorem ok_law_box (tx : Txt w K mg cA ad fd) : FnT P w K mg base cA 5 (ad 3) (fd 3) ["digits", "grow", "at"] [] F_law_box := by
  have nd : (N_law_box).Nodup := sc_law_box.nd
  refine fn_ok (x := "_law_box") [] tx.F_law_box sc_law_box rfl fun cdv A outer s H vs E hr => ?_
  have hu := hu_ofR hr
  have tk : Takes (cxT P w K mg base N_law_box "_law_box" s_law_box (ad 3) cdv A outer s H E) (lcT cA E [] vs).W := takes_of rfl rfl rfl rfl
  have pv : PassesOwn (model P w) (cxT P w K mg base N_law_box "_law_box" s_law_box (ad 3) cdv A outer s H E).A (cxT P w K mg base N_law_box "_law_box" s_law_box (ad 3) cdv A outer s H E).env (cxT P w K mg base N_law_box "_law_box" s_law_box (ad 3) cdv A outer s H E).xe := passes_of rfl
  exact (db_cons (ds_asg (de_lc (own := [("k", 8)]) rfl nd (di_range (da_cons de_int da_nil) tx.n_range) (by first | rfl | decide +kernel) (fun _ _ _ _ _ => (dg_name 8 nd)) (fun _ _ _ _ _ => dts_nil) (fun _ _ _ _ _ => (de_mulI (de_mod (de_intC tx.n_int (da_cons (de_ix (de_v 0) (de_v 8)) da_nil)) de_int) (de_v 1)))) (dg_unl rfl (dgs_cons (dg_name 3 nd) (dgs_cons (dg_name 6 nd) (dgs_cons (dg_name 7 nd) dgs_nil)))))
  (db_cons (ds_set 3 nd (de_ix (de_lst (da_cons (de_v 3) (da_cons (de_sub de_int (de_fdiv (de_v 3) de_int)) da_nil))) (de_intC tx.n_int (da_cons (de_cmp (cr_eq hu) (de_mod (de_intC tx.n_int (da_cons (de_ix (de_v 0) de_int) da_nil)) de_int) de_int) da_nil))))
  (db_cons (ds_set 4 nd (de_mod (de_intC tx.n_int (da_cons (de_ix (de_v 0) de_int) da_nil)) de_int))
  (db_cons (ds_par 6 7 nd (da_cons (de_ix (de_lst (da_cons (de_v 6) (da_cons (de_sub de_int (de_fdiv (de_v 6) de_int)) da_nil))) (de_intC tx.n_int (da_cons (de_cmp (cr_eq hu) (de_v 4) de_int) da_nil))) (da_cons (de_ix (de_lst (da_cons (de_v 7) (da_cons (de_fdiv (de_v 7) de_int) (da_cons (de_sub de_int (de_fdiv (de_v 7) de_int)) (da_cons de_int da_nil))))) (de_mod (de_intC tx.n_int (da_cons (de_v 4) da_nil)) de_int)) da_nil)))
  (db_cons (ds_set 5 nd (de_lst (da_cons (de_tup (da_cons (de_mod (de_intC tx.n_int (da_cons (de_ix (de_v 0) de_int) da_nil)) de_int) (da_cons (de_sub (de_mod (de_intC tx.n_int (da_cons (de_ix (de_v 0) de_int) da_nil)) de_int) de_int) (da_cons (de_tup (da_cons de_str (da_cons (de_tup (da_cons (de_v 2) (da_cons de_int da_nil))) (da_cons (de_fdiv (de_v 3) de_int) (da_cons de_int da_nil))))) da_nil)))) da_nil)))
  (db_one (ds_ret (de_make (c := 6) (n := 4) tx.M_Box (ok_Boxdd_initdd tx) (hr.mono (by decide)) tk tx.g_Box tx.b_Boxdd_initdd .nil Dfl.nil (da_cons (de_v 3) (da_cons (de_v 6) (da_cons (de_v 7) (da_cons (de_add (de_v 5) (de_lst (da_cons (de_tup (da_cons de_int (da_cons de_int (da_cons (de_tup (da_cons de_str (da_cons (de_tup (da_cons (de_v 2) da_nil)) (da_cons (de_mod (de_intC tx.n_int (da_cons (de_v 2) da_nil)) de_int) (da_cons (de_mod (de_intC tx.n_int (da_cons (de_ix (de_v 0) de_int) da_nil)) de_int) (da_cons de_str da_nil)))))) da_nil)))) da_nil))) da_nil))))))))))))
theorem sc_law_digits : FnScope N_law_digits ["cell", "many"] (defScope s_law_digits) := ⟨rfl, rfl, rfl, by decide +kernel, rfl, by decide +kernel, by decide +kernel⟩
theorem ok_law_digits (tx : Txt w K mg cA ad fd) : FnT P w K mg base cA 3 (ad 4) (fd 4) ["cell", "many"] [] F_law_digits := by
  have nd : (N_law_digits).Nodup := sc_law_digits.nd
  refine fn_ok (x := "_law_digits") [] tx.F_law_digits sc_law_digits rfl fun cdv A outer s H vs E hr => ?_
  have hu := hu_ofR hr
  have tk : Takes (cxT P w K mg base N_law_digits "_law_digits" s_law_digits (ad 4) cdv A outer s H E) (lcT cA E [] vs).W := takes_of rfl rfl rfl rfl
  have pv : PassesOwn (model P w) (cxT P w K mg base N_law_digits "_law_digits" s_law_digits (ad 4) cdv A outer s H E).A (cxT P w K mg base N_law_digits "_law_digits" s_law_digits (ad 4) cdv A outer s H E).env (cxT P w K mg base N_law_digits "_law_digits" s_law_digits (ad 4) cdv A outer s H E).xe := passes_of rfl
  exact (db_cons (ds_set 2 nd (de_lst da_nil))
  (db_cons (ds_set 3 nd de_int)
  (db_cons (ds_if (dt_cmp cr_ge (de_v 0) (de_pow de_int de_int)) (db_one (ds_set 3 nd (de_v 0))) db_nil)
  (db_cons (ds_set 4 nd (de_mod (de_intC tx.n_int (da_cons (de_v 0) da_nil)) de_int))
  (db_cons (ds_for pv rfl (di_range (da_cons (de_v 1) da_nil) tx.n_range) (dg_name 5 nd) (db_cons (ds_set 4 nd (de_mod (de_intC tx.n_int (da_cons (de_add (de_add (de_mulI (de_v 4) de_int) (de_mulI de_int (de_v 5))) de_int) da_nil)) de_int))
  (db_cons (ds_set 4 nd (de_mod (de_intC tx.n_int (da_cons (de_mulI (de_v 4) (de_add (de_fdiv (de_v 4) de_int) de_int)) da_nil)) de_int))
  (db_one (ds_if (dt_cmp cr_gt (de_v 3) de_int) (db_cons (ds_app 2 (de_mod (de_intC tx.n_int (da_cons (de_v 3) da_nil)) de_int))
  (db_one (ds_set 3 nd (de_fdiv (de_v 3) de_int)))) (db_one (ds_app 2 (de_mod (de_intC tx.n_int (da_cons (de_fdiv (de_v 4) de_int) da_nil)) de_int))))))))
  (db_one (ds_ret (de_mv 2))))))))
theorem sc_is_circle : FnScope N_is_circle ["face", "name"] (defScope s_is_circle) := ⟨rfl, rfl, rfl, by decide +kernel, rfl, by decide +kernel, by decide +kernel⟩
theorem ok_is_circle (tx : Txt w K mg cA ad fd) : FnT P w K mg base cA 3 (ad 5) (fd 5) ["face", "name"] [] F_is_circle := by
  have nd : (N_is_circle).Nodup := sc_is_circle.nd
  refine fn_ok (x := "is_circle") [] tx.F_is_circle sc_is_circle rfl fun cdv A outer s H vs E hr => ?_
  have hu := hu_ofR hr
  have tk : Takes (cxT P w K mg base N_is_circle "is_circle" s_is_circle (ad 5) cdv A outer s H E) (lcT cA E [] vs).W := takes_of rfl rfl rfl rfl
  have pv : PassesOwn (model P w) (cxT P w K mg base N_is_circle "is_circle" s_is_circle (ad 5) cdv A outer s H E).A (cxT P w K mg base N_is_circle "is_circle" s_is_circle (ad 5) cdv A outer s H E).env (cxT P w K mg base N_is_circle "is_circle" s_is_circle (ad 5) cdv A outer s H E).xe := passes_of rfl
  exact (db_cons (ds_set 2 nd (de_lst da_nil))
  (db_cons (ds_while 100000 pv (dt_b (dt_w (dw_and (dt_cmp cr_isNot (de_v 1) de_non) (dw_and1 (dt_cmp (cr_notIn hu) (de_v 1) (de_v 2)))))) (db_cons (ds_app 2 (de_v 1))
  (db_one (ds_set 1 nd (de_ix (de_ixA hu (de_ix (de_v 0) de_int) (de_v 1)) de_int)))))
  (db_one (ds_ret (de_cmp cr_isNot (de_v 1) de_non)))))
theorem sc_is_integer : FnScope N_is_integer ["thing"] (defScope s_is_integer) := ⟨rfl, rfl, rfl, by decide +kernel, rfl, by decide +kernel, by decide +kernel⟩
theorem ok_is_integer (tx : Txt w K mg cA ad fd) : FnT P w K mg base cA 3 (ad 6) (fd 6) ["thing"] [] F_is_integer := by
  have nd : (N_is_integer).Nodup := sc_is_integer.nd
  refine fn_ok (x := "is_integer") [] tx.F_is_integer sc_is_integer rfl fun cdv A outer s H vs E hr => ?_
  have hu := hu_ofR hr
  have tk : Takes (cxT P w K mg base N_is_integer "is_integer" s_is_integer (ad 6) cdv A outer s H E) (lcT cA E [] vs).W := takes_of rfl rfl rfl rfl
  have pv : PassesOwn (model P w) (cxT P w K mg base N_is_integer "is_integer" s_is_integer (ad 6) cdv A outer s H E).A (cxT P w K mg base N_is_integer "is_integer" s_is_integer (ad 6) cdv A outer s H E).env (cxT P w K mg base N_is_integer "is_integer" s_is_integer (ad 6) cdv A outer s H E).xe := passes_of rfl
  exact (db_one (ds_ret (de_and (de_isi tx.kit tx.n_isinstance (da_cons (de_v 0) (da_cons (de_ty (n := "int") tx.n_int PyProof.Rows.Boot.int) da_nil))) (de_one (de_not (de_isi tx.kit tx.n_isinstance (da_cons (de_v 0) (da_cons (de_ty (n := "bool") tx.n_bool PyProof.Rows.Boot.bool) da_nil))))))))
theorem sc_is_between : FnScope N_is_between ["thing", "least", "most"] (defScope s_is_between) := ⟨rfl, rfl, rfl, by decide +kernel, rfl, by decide +kernel, by decide +kernel⟩
theorem ok_is_between (tx : Txt w K mg cA ad fd) : FnT P w K mg base cA 4 (ad 7) (fd 7) ["thing", "least", "most"] [] F_is_between := by
  have nd : (N_is_between).Nodup := sc_is_between.nd
  refine fn_ok (x := "is_between") [] tx.F_is_between sc_is_between rfl fun cdv A outer s H vs E hr => ?_
  have hu := hu_ofR hr
  have tk : Takes (cxT P w K mg base N_is_between "is_between" s_is_between (ad 7) cdv A outer s H E) (lcT cA E [] vs).W := takes_of rfl rfl rfl rfl
  have pv : PassesOwn (model P w) (cxT P w K mg base N_is_between "is_between" s_is_between (ad 7) cdv A outer s H E).A (cxT P w K mg base N_is_between "is_between" s_is_between (ad 7) cdv A outer s H E).env (cxT P w K mg base N_is_between "is_between" s_is_between (ad 7) cdv A outer s H E).xe := passes_of rfl
  exact (db_one (ds_ret (de_and (de_call (ok_is_integer tx) (hr.mono (by decide)) tk tx.g_is_integer tx.F_is_integer.kp tx.b_is_integer .nil Dfl.nil (dl_cons (de_v 0) dl_nil)) (de_one (de_chain cr_le cr_le (de_v 1) (de_v 0) (de_v 2))))))
theorem sc_is_name : FnScope N_is_name ["thing"] (defScope s_is_name) := ⟨rfl, rfl, rfl, by decide +kernel, rfl, by decide +kernel, by decide +kernel⟩
theorem ok_is_name (tx : Txt w K mg cA ad fd) : FnT P w K mg base cA 3 (ad 8) (fd 8) ["thing"] [] F_is_name := by
  have nd : (N_is_name).Nodup := sc_is_name.nd
  obtain ⟨u_LETTERS, g_LETTERS, c_LETTERS⟩ := tx.gc_LETTERS
  obtain ⟨u_MOST_LETTERS, g_MOST_LETTERS, c_MOST_LETTERS⟩ := tx.gc_MOST_LETTERS
  refine fn_ok (x := "is_name") [] tx.F_is_name sc_is_name rfl fun cdv A outer s H vs E hr => ?_
  have hu := hu_ofR hr
  have tk : Takes (cxT P w K mg base N_is_name "is_name" s_is_name (ad 8) cdv A outer s H E) (lcT cA E [] vs).W := takes_of rfl rfl rfl rfl
  have pv : PassesOwn (model P w) (cxT P w K mg base N_is_name "is_name" s_is_name (ad 8) cdv A outer s H E).A (cxT P w K mg base N_is_name "is_name" s_is_name (ad 8) cdv A outer s H E).env (cxT P w K mg base N_is_name "is_name" s_is_name (ad 8) cdv A outer s H E).xe := passes_of rfl
  exact (db_cons (ds_if (dt_w (dw_or (dt_not (dt_of (de_isi tx.kit tx.n_isinstance (da_cons (de_v 0) (da_cons (de_ty (n := "str") tx.n_str PyProof.Rows.Boot.str) da_nil))))) (dw_or1 (dt_not (dt_chain cr_le cr_le de_int (de_len tx.n_len (da_cons (de_v 0) da_nil)) (de_con g_MOST_LETTERS c_MOST_LETTERS)))))) (db_one (ds_ret de_bl)) db_nil)
  (db_one (ds_ret (de_all rfl tx.n_all (da_cons (de_lc (own := [("letter", 1)]) rfl nd (di_str (de_v 0)) (by first | rfl | decide +kernel) (fun _ _ _ _ _ => (dg_name 1 nd)) (fun _ _ _ _ _ => dts_nil) (fun _ _ _ _ _ => (de_cmp (cr_in hu) (de_v 1) (de_con g_LETTERS c_LETTERS)))) da_nil)))))
theorem sc_is_tuple : FnScope N_is_tuple ["thing", "many"] (defScope s_is_tuple) := ⟨rfl, rfl, rfl, by decide +kernel, rfl, by decide +kernel, by decide +kernel⟩
theorem ok_is_tuple (tx : Txt w K mg cA ad fd) : FnT P w K mg base cA 3 (ad 9) (fd 9) ["thing", "many"] [] F_is_tuple := by
  have nd : (N_is_tuple).Nodup := sc_is_tuple.nd
  refine fn_ok (x := "is_tuple") [] tx.F_is_tuple sc_is_tuple rfl fun cdv A outer s H vs E hr => ?_
  have hu := hu_ofR hr
  have tk : Takes (cxT P w K mg base N_is_tuple "is_tuple" s_is_tuple (ad 9) cdv A outer s H E) (lcT cA E [] vs).W := takes_of rfl rfl rfl rfl
  have pv : PassesOwn (model P w) (cxT P w K mg base N_is_tuple "is_tuple" s_is_tuple (ad 9) cdv A outer s H E).A (cxT P w K mg base N_is_tuple "is_tuple" s_is_tuple (ad 9) cdv A outer s H E).env (cxT P w K mg base N_is_tuple "is_tuple" s_is_tuple (ad 9) cdv A outer s H E).xe := passes_of rfl
  exact (db_one (ds_ret (de_and (de_isi tx.kit tx.n_isinstance (da_cons (de_v 0) (da_cons (de_ty (n := "tuple") tx.n_tuple PyProof.Rows.Boot.tuple) da_nil))) (de_one (de_cmp (cr_eq hu) (de_len tx.n_len (da_cons (de_v 0) da_nil)) (de_v 1))))))
theorem sc_is_glyph : FnScope N_is_glyph ["face", "glyph"] (defScope s_is_glyph) := ⟨rfl, rfl, rfl, by decide +kernel, rfl, by decide +kernel, by decide +kernel⟩
theorem ok_is_glyph (tx : Txt w K mg cA ad fd) : FnT P w K mg base cA 5 (ad 10) (fd 10) ["face", "glyph"] [] F_is_glyph := by
  have nd : (N_is_glyph).Nodup := sc_is_glyph.nd
  obtain ⟨u_MOST, g_MOST, c_MOST⟩ := tx.gc_MOST
  refine fn_ok (x := "is_glyph") [] tx.F_is_glyph sc_is_glyph rfl fun cdv A outer s H vs E hr => ?_
  have hu := hu_ofR hr
  have tk : Takes (cxT P w K mg base N_is_glyph "is_glyph" s_is_glyph (ad 10) cdv A outer s H E) (lcT cA E [] vs).W := takes_of rfl rfl rfl rfl
  have pv : PassesOwn (model P w) (cxT P w K mg base N_is_glyph "is_glyph" s_is_glyph (ad 10) cdv A outer s H E).A (cxT P w K mg base N_is_glyph "is_glyph" s_is_glyph (ad 10) cdv A outer s H E).env (cxT P w K mg base N_is_glyph "is_glyph" s_is_glyph (ad 10) cdv A outer s H E).xe := passes_of rfl
  exact (db_cons (ds_if (dt_w (dw_or (dt_not (dt_of (de_call (ok_is_tuple tx) (hr.mono (by decide)) tk tx.g_is_tuple tx.F_is_tuple.kp tx.b_is_tuple .nil Dfl.nil (dl_cons (de_v 1) (dl_cons de_int dl_nil))))) (dw_or1 (dt_not (dt_of (de_all rfl tx.n_all (da_cons (de_lc (own := [("number", 4)]) rfl nd (di_seq (de_sl (de_v 1) do_none (do_some de_int))) (by first | rfl | decide +kernel) (fun _ _ _ _ _ => (dg_name 4 nd)) (fun _ _ _ _ _ => dts_nil) (fun _ _ _ _ _ => (de_call (ok_is_between tx) (hr.mono (by decide)) takes0 tx.g_is_between tx.F_is_between.kp tx.b_is_between .nil Dfl.nil (dl_cons (de_v 4) (dl_cons de_int (dl_cons (de_con g_MOST c_MOST) dl_nil)))))) da_nil))))))) (db_one (ds_ret de_bl)) db_nil)
  (db_cons (ds_asg (de_sl (de_v 1) (do_some de_int) do_none) (dg_tup rfl (dgs_cons (dg_name 2 nd) (dgs_cons (dg_name 3 nd) dgs_nil))))
  (db_cons (ds_if (dt_w (dw_and (dt_cmp cr_isNot (de_v 2) de_non) (dw_and1 (dt_w (dw_or (dt_cmp cr_isNot (de_v 3) de_non) (dw_or (dt_not (dt_of (de_call (ok_is_name tx) (hr.mono (by decide)) tk tx.g_is_name tx.F_is_name.kp tx.b_is_name .nil Dfl.nil (dl_cons (de_v 2) dl_nil)))) (dw_or1 (dt_cmp (cr_notInD hu) (de_v 2) (de_ix (de_v 0) de_int))))))))) (db_one (ds_ret de_bl)) db_nil)
  (db_cons (ds_if (dt_cmp cr_is (de_v 3) de_non) (db_one (ds_ret de_bl)) db_nil)
  (db_cons (ds_if (dt_w (dw_or (dt_not (dt_of (de_call (ok_is_tuple tx) (hr.mono (by decide)) tk tx.g_is_tuple tx.F_is_tuple.kp tx.b_is_tuple .nil Dfl.nil (dl_cons (de_v 3) (dl_cons de_int dl_nil))))) (dw_or1 (dt_not (dt_of (de_all rfl tx.n_all (da_cons (de_lc (own := [("part", 5)]) rfl nd (di_seq (de_v 3)) (by first | rfl | decide +kernel) (fun _ _ _ _ _ => (dg_name 5 nd)) (fun _ _ _ _ _ => dts_nil) (fun _ _ _ _ _ => (de_or (de_cmp cr_is (de_v 5) de_non) (de_one (de_and (de_call (ok_is_name tx) (hr.mono (by decide)) takes0 tx.g_is_name tx.F_is_name.kp tx.b_is_name .nil Dfl.nil (dl_cons (de_v 5) dl_nil)) (de_one (de_cmp (cr_inD hu) (de_v 5) (de_ix (de_v 0) de_int)))))))) da_nil))))))) (db_one (ds_ret de_bl)) db_nil)
  (db_one (ds_ret (de_cmp cr_isNot (de_ix (de_v 3) de_int) de_non))))))))
theorem sc_is_pair : FnScope N_is_pair ["face", "pair", "deed"] (defScope s_is_pair) := ⟨rfl, rfl, rfl, by decide +kernel, rfl, by decide +kernel, by decide +kernel⟩
theorem ok_is_pair (tx : Txt w K mg cA ad fd) : FnT P w K mg base cA 5 (ad 11) (fd 11) ["face", "pair", "deed"] [] F_is_pair := by
  have nd : (N_is_pair).Nodup := sc_is_pair.nd
  obtain ⟨u_MOST, g_MOST, c_MOST⟩ := tx.gc_MOST
  refine fn_ok (x := "is_pair") [] tx.F_is_pair sc_is_pair rfl fun cdv A outer s H vs E hr => ?_
  have hu := hu_ofR hr
  have tk : Takes (cxT P w K mg base N_is_pair "is_pair" s_is_pair (ad 11) cdv A outer s H E) (lcT cA E [] vs).W := takes_of rfl rfl rfl rfl
  have pv : PassesOwn (model P w) (cxT P w K mg base N_is_pair "is_pair" s_is_pair (ad 11) cdv A outer s H E).A (cxT P w K mg base N_is_pair "is_pair" s_is_pair (ad 11) cdv A outer s H E).env (cxT P w K mg base N_is_pair "is_pair" s_is_pair (ad 11) cdv A outer s H E).xe := passes_of rfl
  exact (db_cons (ds_if (dt_w (dw_or (dt_not (dt_of (de_call (ok_is_tuple tx) (hr.mono (by decide)) tk tx.g_is_tuple tx.F_is_tuple.kp tx.b_is_tuple .nil Dfl.nil (dl_cons (de_v 1) (dl_cons de_int dl_nil))))) (dw_or1 (dt_not (dt_of (de_all rfl tx.n_all (da_cons (de_lc (own := [("name", 3)]) rfl nd (di_seq (de_v 1)) (by first | rfl | decide +kernel) (fun _ _ _ _ _ => (dg_name 3 nd)) (fun _ _ _ _ _ => dts_nil) (fun _ _ _ _ _ => (de_and (de_call (ok_is_name tx) (hr.mono (by decide)) takes0 tx.g_is_name tx.F_is_name.kp tx.b_is_name .nil Dfl.nil (dl_cons (de_v 3) dl_nil)) (de_one (de_cmp (cr_inD hu) (de_v 3) (de_ix (de_v 0) de_int)))))) da_nil))))))) (db_one (ds_ret de_bl)) db_nil)
  (db_cons (ds_if (dt_w (dw_or (dt_not (dt_of (de_call (ok_is_tuple tx) (hr.mono (by decide)) tk tx.g_is_tuple tx.F_is_tuple.kp tx.b_is_tuple .nil Dfl.nil (dl_cons (de_v 2) (dl_cons de_int dl_nil))))) (dw_or1 (dt_not (dt_of (de_isi tx.kit tx.n_isinstance (da_cons (de_ix (de_v 2) de_int) (da_cons (de_ty (n := "str") tx.n_str PyProof.Rows.Boot.str) da_nil)))))))) (db_one (ds_ret de_bl)) db_nil)
  (db_cons (ds_if (dt_cmp (cr_eq hu) (de_ix (de_v 2) de_int) de_str) (db_one (ds_ret (de_call (ok_is_between tx) (hr.mono (by decide)) tk tx.g_is_between tx.F_is_between.kp tx.b_is_between .nil Dfl.nil (dl_cons (de_ix (de_v 2) de_int) (dl_cons (de_neg (de_con g_MOST c_MOST)) (dl_cons (de_con g_MOST c_MOST) dl_nil)))))) db_nil)
  (db_one (ds_ret (de_and (de_cmp (cr_eq hu) (de_ix (de_v 2) de_int) de_str) (de_and (de_call (ok_is_name tx) (hr.mono (by decide)) tk tx.g_is_name tx.F_is_name.kp tx.b_is_name .nil Dfl.nil (dl_cons (de_ix (de_v 2) de_int) dl_nil)) (de_one (de_cmp (cr_inD hu) (de_ix (de_v 2) de_int) (de_ix (de_v 0) de_int))))))))))
theorem sc_check_face : FnScope N_check_face ["face", "place"] (defScope s_check_face) := ⟨rfl, rfl, rfl, by decide +kernel, rfl, by decide +kernel, by decide +kernel⟩
theorem ok_check_face (tx : Txt w K mg cA ad fd) : FnT P w K mg base cA 6 (ad 12) (fd 12) ["face", "place"] [] F_check_face := by
  have nd : (N_check_face).Nodup := sc_check_face.nd
  obtain ⟨u_MOST_GLYPHS, g_MOST_GLYPHS, c_MOST_GLYPHS⟩ := tx.gc_MOST_GLYPHS
  refine fn_ok (x := "check_face") [] tx.F_check_face sc_check_face rfl fun cdv A outer s H vs E hr => ?_
  have hu := hu_ofR hr
  have tk : Takes (cxT P w K mg base N_check_face "check_face" s_check_face (ad 12) cdv A outer s H E) (lcT cA E [] vs).W := takes_of rfl rfl rfl rfl
  have pv : PassesOwn (model P w) (cxT P w K mg base N_check_face "check_face" s_check_face (ad 12) cdv A outer s H E).A (cxT P w K mg base N_check_face "check_face" s_check_face (ad 12) cdv A outer s H E).env (cxT P w K mg base N_check_face "check_face" s_check_face (ad 12) cdv A outer s H E).xe := passes_of rfl
  exact (db_cons (ds_if (dt_w (dw_or (dt_not (dt_of (de_call (ok_is_tuple tx) (hr.mono (by decide)) tk tx.g_is_tuple tx.F_is_tuple.kp tx.b_is_tuple .nil Dfl.nil (dl_cons (de_v 0) (dl_cons de_int dl_nil))))) (dw_or (dt_not (dt_of (de_all rfl tx.n_all (da_cons (de_lc (own := [("part", 3)]) rfl nd (di_seq (de_sl (de_v 0) do_none (do_some de_int))) (by first | rfl | decide +kernel) (fun _ _ _ _ _ => (dg_name 3 nd)) (fun _ _ _ _ _ => dts_nil) (fun _ _ _ _ _ => (de_isi tx.kit tx.n_isinstance (da_cons (de_v 3) (da_cons (de_ty (n := "dict") tx.n_dict PyProof.Rows.Boot.dict) da_nil))))) da_nil)))) (dw_or1 (dt_not (dt_of (de_isi tx.kit tx.n_isinstance (da_cons (de_ix (de_v 0) de_int) (da_cons (de_ty (n := "bool") tx.n_bool PyProof.Rows.Boot.bool) da_nil))))))))) (db_one ds_never) db_nil)
  (db_cons (ds_if (dt_w (dw_or (dt_cmp cr_gt (de_lenD tx.n_len (da_cons (de_ix (de_v 0) de_int) da_nil)) (de_con g_MOST_GLYPHS c_MOST_GLYPHS)) (dw_or1 (dt_not (dt_of (de_all rfl tx.n_all (da_cons (de_lcK0 (own := [("name", 2)]) (g := (gSet 2)) (tt := mYes) (te := (mCallF [none] [] [] F_is_name (mCons (mV 2) mNil))) rfl nd (de_ix (de_v 0) de_int) (by first | rfl | decide +kernel) (fun _ _ _ _ _ => (dg_name 2 nd)) (fun _ _ _ _ _ => dts_nil) (fun _ _ _ _ _ => (de_call (ok_is_name tx) (hr.mono (by decide)) takes0 tx.g_is_name tx.F_is_name.kp tx.b_is_name .nil Dfl.nil (dl_cons (de_v 2) dl_nil)))) da_nil))))))) (db_one ds_never) db_nil)
  (db_cons (ds_for pv rfl (di_seq (de_sortD1 rfl tx.n_sorted (da_cons (de_ix (de_v 0) de_int) da_nil))) (dg_name 2 nd) (db_one (ds_if (dt_not (dt_of (de_call (ok_is_glyph tx) (hr.mono (by decide)) tk tx.g_is_glyph tx.F_is_glyph.kp tx.b_is_glyph .nil Dfl.nil (dl_cons (de_v 0) (dl_cons (de_ixA hu (de_ix (de_v 0) de_int) (de_v 2)) dl_nil))))) (db_one ds_never) db_nil)))
  (db_cons (ds_for pv rfl (di_seq (de_sortD1 rfl tx.n_sorted (da_cons (de_ix (de_v 0) de_int) da_nil))) (dg_name 2 nd) (db_one (ds_if (dt_of (de_call (ok_is_circle tx) (hr.mono (by decide)) tk tx.g_is_circle tx.F_is_circle.kp tx.b_is_circle .nil Dfl.nil (dl_cons (de_v 0) (dl_cons (de_v 2) dl_nil)))) (db_one ds_never) db_nil)))
  (db_one (ds_if (dt_not (dt_of (de_all rfl tx.n_all (da_cons (de_lcI0 (own := [("pair", 4), ("deed", 5)]) (g := (gTupD 2 (gsCons (gSet 4) (gsCons (gSet 5) gsNil)))) (tt := mYes) (te := (mCallF [none, none, none] [] [] F_is_pair (mCons (mV 0) (mCons (mV 4) (mCons (mV 5) mNil))))) rfl nd (de_ix (de_v 0) de_int) (by first | rfl | decide +kernel) (fun _ _ _ _ _ => (dg_tup rfl (dgs_cons (dg_name 4 nd) (dgs_cons (dg_name 5 nd) dgs_nil)))) (fun _ _ _ _ _ => dts_nil) (fun _ _ _ _ _ => (de_call (ok_is_pair tx) (hr.mono (by decide)) takes0 tx.g_is_pair tx.F_is_pair.kp tx.b_is_pair .nil Dfl.nil (dl_cons (de_v 0) (dl_cons (de_v 4) (dl_cons (de_v 5) dl_nil)))))) da_nil)))) (db_one ds_never) db_nil))))))
theorem sc_check_families : FnScope N_check_families ["families"] (defScope s_check_families) := ⟨rfl, rfl, rfl, by decide +kernel, rfl, by decide +kernel, by decide +kernel⟩
theorem ok_check_families (tx : Txt w K mg cA ad fd) : FnT P w K mg base cA 7 (ad 13) (fd 13) ["families"] [] F_check_families := by
  have nd : (N_check_families).Nodup := sc_check_families.nd
  obtain ⟨u_MOST_FAMILIES, g_MOST_FAMILIES, c_MOST_FAMILIES⟩ := tx.gc_MOST_FAMILIES
  refine fn_ok (x := "check_families") [] tx.F_check_families sc_check_families rfl fun cdv A outer s H vs E hr => ?_
  have hu := hu_ofR hr
  have tk : Takes (cxT P w K mg base N_check_families "check_families" s_check_families (ad 13) cdv A outer s H E) (lcT cA E [] vs).W := takes_of rfl rfl rfl rfl
  have pv : PassesOwn (model P w) (cxT P w K mg base N_check_families "check_families" s_check_families (ad 13) cdv A outer s H E).A (cxT P w K mg base N_check_families "check_families" s_check_families (ad 13) cdv A outer s H E).env (cxT P w K mg base N_check_families "check_families" s_check_families (ad 13) cdv A outer s H E).xe := passes_of rfl
  exact (db_cons (ds_if (dt_w (dw_or (dt_not (dt_of (de_isi tx.kit tx.n_isinstance (da_cons (de_v 0) (da_cons (de_ty (n := "list") tx.n_list PyProof.Rows.Boot.list) da_nil))))) (dw_or1 (dt_not (dt_chain cr_le cr_le de_int (de_len tx.n_len (da_cons (de_v 0) da_nil)) (de_con g_MOST_FAMILIES c_MOST_FAMILIES)))))) (db_one ds_never) db_nil)
  (db_one (ds_for pv rfl (di_enum (da_cons (de_v 0) da_nil) tx.n_enumerate) (dg_tup rfl (dgs_cons (dg_name 1 nd) (dgs_cons (dg_name 2 nd) dgs_nil))) (db_cons (ds_if (dt_not (dt_of (de_call (ok_is_tuple tx) (hr.mono (by decide)) tk tx.g_is_tuple tx.F_is_tuple.kp tx.b_is_tuple .nil Dfl.nil (dl_cons (de_v 2) (dl_cons de_int dl_nil))))) (db_one ds_never) db_nil)
  (db_one (ds_for pv rfl (di_enumT (da_cons (de_v 2) da_nil) tx.n_enumerate) (dg_tup rfl (dgs_cons (dg_name 3 nd) (dgs_cons (dg_name 4 nd) dgs_nil))) (db_one (ds_expr (de_call (ok_check_face tx) (hr.mono (by decide)) tk tx.g_check_face tx.F_check_face.kp tx.b_check_face .nil Dfl.nil (dl_cons (de_v 4) (dl_cons (de_tup (da_cons (de_v 1) (da_cons (de_v 3) da_nil))) dl_nil)))))))))))
theorem sc_most_of : FnScope N_most_of ["word"] (defScope s_most_of) := ⟨rfl, rfl, rfl, by decide +kernel, rfl, by decide +kernel, by decide +kernel⟩
theorem ok_most_of (tx : Txt w K mg cA ad fd) : FnT P w K mg base cA 3 (ad 14) (fd 14) ["word"] [] F_most_of := by
  have nd : (N_most_of).Nodup := sc_most_of.nd
  obtain ⟨u_MOST, g_MOST, c_MOST⟩ := tx.gc_MOST
  obtain ⟨u_MOST_FACTOR, g_MOST_FACTOR, c_MOST_FACTOR⟩ := tx.gc_MOST_FACTOR
  refine fn_ok (x := "most_of") [] tx.F_most_of sc_most_of rfl fun cdv A outer s H vs E hr => ?_
  have hu := hu_ofR hr
  have tk : Takes (cxT P w K mg base N_most_of "most_of" s_most_of (ad 14) cdv A outer s H E) (lcT cA E [] vs).W := takes_of rfl rfl rfl rfl
  have pv : PassesOwn (model P w) (cxT P w K mg base N_most_of "most_of" s_most_of (ad 14) cdv A outer s H E).A (cxT P w K mg base N_most_of "most_of" s_most_of (ad 14) cdv A outer s H E).env (cxT P w K mg base N_most_of "most_of" s_most_of (ad 14) cdv A outer s H E).xe := passes_of rfl
  exact (db_one (ds_ret (de_if (dt_cmp (cr_eq hu) (de_v 0) de_str) (de_con g_MOST_FACTOR c_MOST_FACTOR) (de_con g_MOST c_MOST))))
theorem sc_check_words : FnScope N_check_words ["values", "words", "part", "place"] (defScope s_check_words) := ⟨rfl, rfl, rfl, by decide +kernel, rfl, by decide +kernel, by decide +kernel⟩
theorem ok_check_words (tx : Txt w K mg cA ad fd) : FnT P w K mg base cA 5 (ad 15) (fd 15) ["values", "words", "part", "place"] [] F_check_words := by
  have nd : (N_check_words).Nodup := sc_check_words.nd
  refine fn_ok (x := "check_words") [] tx.F_check_words sc_check_words rfl fun cdv A outer s H vs E hr => ?_
  have hu := hu_ofR hr
  have tk : Takes (cxT P w K mg base N_check_words "check_words" s_check_words (ad 15) cdv A outer s H E) (lcT cA E [] vs).W := takes_of rfl rfl rfl rfl
  have pv : PassesOwn (model P w) (cxT P w K mg base N_check_words "check_words" s_check_words (ad 15) cdv A outer s H E).A (cxT P w K mg base N_check_words "check_words" s_check_words (ad 15) cdv A outer s H E).env (cxT P w K mg base N_check_words "check_words" s_check_words (ad 15) cdv A outer s H E).xe := passes_of rfl
  exact (db_cons (ds_if (dt_w (dw_or (dt_not (dt_of (de_isi tx.kit tx.n_isinstance (da_cons (de_v 0) (da_cons (de_ty (n := "dict") tx.n_dict PyProof.Rows.Boot.dict) da_nil))))) (dw_or1 (dt_cmp (cr_ne hu) (de_lenD tx.n_len (da_cons (de_v 0) da_nil)) (de_len tx.n_len (da_cons (de_v 1) da_nil)))))) (db_one ds_never) db_nil)
  (db_one (ds_for pv rfl (di_seq (de_v 1)) (dg_name 4 nd) (db_one (ds_if (dt_w (dw_or (dt_cmp (cr_notInD hu) (de_v 4) (de_v 0)) (dw_or1 (dt_not (dt_of (de_call (ok_is_between tx) (hr.mono (by decide)) tk tx.g_is_between tx.F_is_between.kp tx.b_is_between .nil Dfl.nil (dl_cons (de_ixA hu (de_v 0) (de_v 4)) (dl_cons de_int (dl_cons (de_call (ok_most_of tx) (hr.mono (by decide)) tk tx.g_most_of tx.F_most_of.kp tx.b_most_of .nil Dfl.nil (dl_cons (de_v 4) dl_nil)) dl_nil))))))))) (db_one ds_never) db_nil)))))
theorem sc_copied_face : FnScope N_copied_face ["face"] (defScope s_copied_face) := ⟨rfl, rfl, rfl, by decide +kernel, rfl, by decide +kernel, by decide +kernel⟩
theorem ok_copied_face (tx : Txt w K mg cA ad fd) : FnT P w K mg base cA 3 (ad 16) (fd 16) ["face"] [] F_copied_face := by
  have nd : (N_copied_face).Nodup := sc_copied_face.nd
  refine fn_ok (x := "copied_face") [] tx.F_copied_face sc_copied_face rfl fun cdv A outer s H vs E hr => ?_
  have hu := hu_ofR hr
  have tk : Takes (cxT P w K mg base N_copied_face "copied_face" s_copied_face (ad 16) cdv A outer s H E) (lcT cA E [] vs).W := takes_of rfl rfl rfl rfl
  have pv : PassesOwn (model P w) (cxT P w K mg base N_copied_face "copied_face" s_copied_face (ad 16) cdv A outer s H E).A (cxT P w K mg base N_copied_face "copied_face" s_copied_face (ad 16) cdv A outer s H E).env (cxT P w K mg base N_copied_face "copied_face" s_copied_face (ad 16) cdv A outer s H E).xe := passes_of rfl
  exact (db_one (ds_ret (de_tup (da_cons (de_dictC tx.n_dict (da_cons (de_ix (de_v 0) de_int) da_nil)) (da_cons (de_dictC tx.n_dict (da_cons (de_ix (de_v 0) de_int) da_nil)) (da_cons (de_ix (de_v 0) de_int) da_nil))))))
theorem sc_Fontsdd_initdd : FnScope N_Fontsdd_initdd ["self", "families", "numbers", "settings", "skew"] (defScope s_Fontsdd_initdd) := ⟨rfl, rfl, rfl, by decide +kernel, rfl, by decide +kernel, by decide +kernel⟩
theorem ok_Fontsdd_initdd (tx : Txt w K mg cA ad fd) : FnT P w K mg base cA 8 (ad 17) (fd 17) ["self", "families", "numbers", "settings", "skew"] [0] F_Fontsdd_initdd := by
  have nd : (N_Fontsdd_initdd).Nodup := sc_Fontsdd_initdd.nd
  obtain ⟨u_SETTINGS, g_SETTINGS, c_SETTINGS⟩ := tx.gc_SETTINGS
  obtain ⟨u_WORDS, g_WORDS, c_WORDS⟩ := tx.gc_WORDS
  refine fn_ok (x := "__init__") [0] tx.F_Fontsdd_initdd sc_Fontsdd_initdd rfl fun cdv A outer s H vs E hr => ?_
  have hu := hu_ofR hr
  have tk : Takes (cxT P w K mg base N_Fontsdd_initdd "Fonts.__init__" s_Fontsdd_initdd (ad 17) cdv A outer s H E) (lcT cA E [0] vs).W := takes_of rfl rfl rfl rfl
  have pv : PassesOwn (model P w) (cxT P w K mg base N_Fontsdd_initdd "Fonts.__init__" s_Fontsdd_initdd (ad 17) cdv A outer s H E).A (cxT P w K mg base N_Fontsdd_initdd "Fonts.__init__" s_Fontsdd_initdd (ad 17) cdv A outer s H E).env (cxT P w K mg base N_Fontsdd_initdd "Fonts.__init__" s_Fontsdd_initdd (ad 17) cdv A outer s H E).xe := passes_of rfl
  exact (db_cons (ds_expr (de_call (ok_check_families tx) (hr.mono (by decide)) tk tx.g_check_families tx.F_check_families.kp tx.b_check_families .nil Dfl.nil (dl_cons (de_v 1) dl_nil)))
  (db_cons (ds_if (dt_not (dt_of (de_call (ok_is_tuple tx) (hr.mono (by decide)) tk tx.g_is_tuple tx.F_is_tuple.kp tx.b_is_tuple .nil Dfl.nil (dl_cons (de_v 2) (dl_cons de_int dl_nil))))) (db_one ds_never) db_nil)
  (db_cons (ds_for pv rfl (di_enumT (da_cons (de_v 2) da_nil) tx.n_enumerate) (dg_tup rfl (dgs_cons (dg_name 5 nd) (dgs_cons (dg_name 6 nd) dgs_nil))) (db_one (ds_expr (de_call (ok_check_words tx) (hr.mono (by decide)) tk tx.g_check_words tx.F_check_words.kp tx.b_check_words .nil Dfl.nil (dl_cons (de_v 6) (dl_cons (de_con g_WORDS c_WORDS) (dl_cons de_str (dl_cons (de_tup (da_cons (de_v 5) da_nil)) dl_nil))))))))
  (db_cons (ds_expr (de_call (ok_check_words tx) (hr.mono (by decide)) tk tx.g_check_words tx.F_check_words.kp tx.b_check_words .nil Dfl.nil (dl_cons (de_v 3) (dl_cons (de_con g_SETTINGS c_SETTINGS) (dl_cons de_str (dl_cons (de_tup da_nil) dl_nil))))))
  (db_cons (ds_if (dt_w (dw_and (dt_cmp cr_isNot (de_v 4) de_non) (dw_and1 (dt_not (dt_of (de_call (ok_is_name tx) (hr.mono (by decide)) tk tx.g_is_name tx.F_is_name.kp tx.b_is_name .nil Dfl.nil (dl_cons (de_v 4) dl_nil))))))) (db_one ds_never) db_nil)
  (db_cons (ds_fld (cs := [5]) 0 tx.f_family_rows (de_lc (own := [("faces", 7)]) rfl nd (di_seq (de_v 1)) (by first | rfl | decide +kernel) (fun _ _ _ _ _ => (dg_name 7 nd)) (fun _ _ _ _ _ => dts_nil) (fun _ _ _ _ _ => (de_tuple tx.n_tuple (da_cons (de_lc (own := [("face", 8)]) rfl nd (di_seq (de_v 7)) (by first | rfl | decide +kernel) (fun _ _ _ _ _ => (dg_name 8 nd)) (fun _ _ _ _ _ => dts_nil) (fun _ _ _ _ _ => (de_call (ok_copied_face tx) (hr.mono (by decide)) takes0 tx.g_copied_face tx.F_copied_face.kp tx.b_copied_face .nil Dfl.nil (dl_cons (de_v 8) dl_nil)))) da_nil)))))
  (db_cons (ds_fld (cs := [5]) 0 tx.f_number_rows (de_tuple tx.n_tuple (da_cons (de_lc (own := [("values", 6)]) rfl nd (di_seq (de_v 2)) (by first | rfl | decide +kernel) (fun _ _ _ _ _ => (dg_name 6 nd)) (fun _ _ _ _ _ => dts_nil) (fun _ _ _ _ _ => (de_dictC tx.n_dict (da_cons (de_v 6) da_nil)))) da_nil)))
  (db_cons (ds_fld (cs := [5]) 0 tx.f_setting_rows (de_dictC tx.n_dict (da_cons (de_v 3) da_nil)))
  (db_one (ds_fld (cs := [5]) 0 tx.f_skew_name (de_v 4)))))))))))
theorem sc_law_fonts : FnScope N_law_fonts ["world"] (defScope s_law_fonts) := ⟨rfl, rfl, rfl, by decide +kernel, rfl, by decide +kernel, by decide +kernel⟩
theorem ok_law_fonts (tx : Txt w K mg cA ad fd) : FnT P w K mg base cA 10 (ad 18) (fd 18) ["world"] [] F_law_fonts := by
  have nd : (N_law_fonts).Nodup := sc_law_fonts.nd
  refine fn_ok (x := "_law_fonts") [] tx.F_law_fonts sc_law_fonts rfl fun cdv A outer s H vs E hr => ?_
  have hu := hu_ofR hr
  have tk : Takes (cxT P w K mg base N_law_fonts "_law_fonts" s_law_fonts (ad 18) cdv A outer s H E) (lcT cA E [] vs).W := takes_of rfl rfl rfl rfl
  have pv : PassesOwn (model P w) (cxT P w K mg base N_law_fonts "_law_fonts" s_law_fonts (ad 18) cdv A outer s H E).A (cxT P w K mg base N_law_fonts "_law_fonts" s_law_fonts (ad 18) cdv A outer s H E).env (cxT P w K mg base N_law_fonts "_law_fonts" s_law_fonts (ad 18) cdv A outer s H E).xe := passes_of rfl
  exact (db_cons (ds_set 1 nd (de_tup (da_cons de_dict0 (da_cons de_dict0 (da_cons de_bl da_nil)))))
  (db_one (ds_ret (de_make (c := 5) (n := 3) tx.M_Fonts (ok_Fontsdd_initdd tx) (hr.mono (by decide)) tk tx.g_Fonts tx.bd_Fontsdd_initdd vals_nones dfl_nones (da_cons (de_lst (da_cons (de_tup (da_cons (de_v 1) (da_cons (de_v 1) (da_cons (de_v 1) da_nil)))) da_nil)) (da_cons (de_tuple tx.n_tuple (da_cons (de_lc (own := [("row", 2)]) rfl nd (di_seq (de_ixA hu (de_v 0) de_str)) (by first | rfl | decide +kernel) (fun _ _ _ _ _ => (dg_name 2 nd)) (fun _ _ _ _ _ => dts_nil) (fun _ _ _ _ _ => (de_dictC tx.n_dict (da_cons (de_v 2) da_nil)))) da_nil)) (da_cons (de_dictC tx.n_dict (da_cons (de_ixA hu (de_v 0) de_str) da_nil)) da_nil)))))))
theorem sc_law_over : FnScope N_law_over ["box", "thick"] (defScope s_law_over) := ⟨rfl, rfl, rfl, by decide +kernel, rfl, by decide +kernel, by decide +kernel⟩
theorem ok_law_over (tx : Txt w K mg cA ad fd) : FnT P w K mg base cA 5 (ad 19) (fd 19) ["box", "thick"] [] F_law_over := by
  have nd : (N_law_over).Nodup := sc_law_over.nd
  refine fn_ok (x := "_law_over") [] tx.F_law_over sc_law_over rfl fun cdv A outer s H vs E hr => ?_
  have hu := hu_ofR hr
  have tk : Takes (cxT P w K mg base N_law_over "_law_over" s_law_over (ad 19) cdv A outer s H E) (lcT cA E [] vs).W := takes_of rfl rfl rfl rfl
  have pv : PassesOwn (model P w) (cxT P w K mg base N_law_over "_law_over" s_law_over (ad 19) cdv A outer s H E).A (cxT P w K mg base N_law_over "_law_over" s_law_over (ad 19) cdv A outer s H E).env (cxT P w K mg base N_law_over "_law_over" s_law_over (ad 19) cdv A outer s H E).xe := passes_of rfl
  exact (db_cons (ds_set 2 nd (de_tup (da_cons de_int (da_cons (de_add (de_add (de_add (de_fld (cs := [6]) tx.f_height (de_v 0)) (de_v 1)) (de_v 1)) (de_v 1)) (da_cons (de_tup (da_cons de_str (da_cons (de_tup da_nil) (da_cons (de_fld (cs := [6]) tx.f_width (de_v 0)) (da_cons (de_v 1) da_nil))))) da_nil)))))
  (db_one (ds_ret (de_make (c := 6) (n := 4) tx.M_Box (ok_Boxdd_initdd tx) (hr.mono (by decide)) tk tx.g_Box tx.b_Boxdd_initdd .nil Dfl.nil (da_cons (de_fld (cs := [6]) tx.f_width (de_v 0)) (da_cons (de_add (de_add (de_ix (de_v 2) de_int) (de_v 1)) (de_v 1)) (da_cons (de_fld (cs := [6]) tx.f_depth (de_v 0)) (da_cons (de_add (de_fld (cs := [6]) tx.f_marks (de_v 0)) (de_lst (da_cons (de_v 2) da_nil))) da_nil))))))))
theorem sc_law_size : FnScope N_law_size ["style"] (defScope s_law_size) := ⟨rfl, rfl, rfl, by decide +kernel, rfl, by decide +kernel, by decide +kernel⟩
theorem ok_law_size (tx : Txt w K mg cA ad fd) : FnT P w K mg base cA 3 (ad 20) (fd 20) ["style"] [] F_law_size := by
  have nd : (N_law_size).Nodup := sc_law_size.nd
  refine fn_ok (x := "_law_size") [] tx.F_law_size sc_law_size rfl fun cdv A outer s H vs E hr => ?_
  have hu := hu_ofR hr
  have tk : Takes (cxT P w K mg base N_law_size "_law_size" s_law_size (ad 20) cdv A outer s H E) (lcT cA E [] vs).W := takes_of rfl rfl rfl rfl
  have pv : PassesOwn (model P w) (cxT P w K mg base N_law_size "_law_size" s_law_size (ad 20) cdv A outer s H E).A (cxT P w K mg base N_law_size "_law_size" s_law_size (ad 20) cdv A outer s H E).env (cxT P w K mg base N_law_size "_law_size" s_law_size (ad 20) cdv A outer s H E).xe := passes_of rfl
  exact (db_one (ds_ret (de_ix (de_tup (da_cons de_int (da_cons de_int (da_cons de_int (da_cons de_int (da_cons de_int (da_cons de_int (da_cons de_int (da_cons de_int da_nil))))))))) (de_v 0))))
theorem sc_law_under : FnScope N_law_under ["box", "thick"] (defScope s_law_under) := ⟨rfl, rfl, rfl, by decide +kernel, rfl, by decide +kernel, by decide +kernel⟩
theorem ok_law_under (tx : Txt w K mg cA ad fd) : FnT P w K mg base cA 5 (ad 21) (fd 21) ["box", "thick"] [] F_law_under := by
  have nd : (N_law_under).Nodup := sc_law_under.nd
  refine fn_ok (x := "_law_under") [] tx.F_law_under sc_law_under rfl fun cdv A outer s H vs E hr => ?_
  have hu := hu_ofR hr
  have tk : Takes (cxT P w K mg base N_law_under "_law_under" s_law_under (ad 21) cdv A outer s H E) (lcT cA E [] vs).W := takes_of rfl rfl rfl rfl
  have pv : PassesOwn (model P w) (cxT P w K mg base N_law_under "_law_under" s_law_under (ad 21) cdv A outer s H E).A (cxT P w K mg base N_law_under "_law_under" s_law_under (ad 21) cdv A outer s H E).env (cxT P w K mg base N_law_under "_law_under" s_law_under (ad 21) cdv A outer s H E).xe := passes_of rfl
  exact (db_cons (ds_set 2 nd (de_add (de_fld (cs := [6]) tx.f_depth (de_v 0)) (de_mulI de_int (de_v 1))))
  (db_one (ds_ret (de_make (c := 6) (n := 4) tx.M_Box (ok_Boxdd_initdd tx) (hr.mono (by decide)) tk tx.g_Box tx.b_Boxdd_initdd .nil Dfl.nil (da_cons (de_fld (cs := [6]) tx.f_width (de_v 0)) (da_cons (de_fld (cs := [6]) tx.f_height (de_v 0)) (da_cons (de_add (de_v 2) (de_v 1)) (da_cons (de_add (de_fld (cs := [6]) tx.f_marks (de_v 0)) (de_lst (da_cons (de_tup (da_cons de_int (da_cons (de_sub de_int (de_v 2)) (da_cons (de_tup (da_cons de_str (da_cons (de_tup da_nil) (da_cons (de_fld (cs := [6]) tx.f_width (de_v 0)) (da_cons (de_v 1) da_nil))))) da_nil)))) da_nil))) da_nil))))))))
theorem sc_check_fonts : FnScope N_check_fonts ["fonts"] (defScope s_check_fonts) := ⟨rfl, rfl, rfl, by decide +kernel, rfl, by decide +kernel, by decide +kernel⟩
theorem ok_check_fonts (tx : Txt w K mg cA ad fd) : FnT P w K mg base cA 3 (ad 22) (fd 22) ["fonts"] [] F_check_fonts := by
  have nd : (N_check_fonts).Nodup := sc_check_fonts.nd
  refine fn_ok (x := "check_fonts") [] tx.F_check_fonts sc_check_fonts rfl fun cdv A outer s H vs E hr => ?_
  have hu := hu_ofR hr
  have tk : Takes (cxT P w K mg base N_check_fonts "check_fonts" s_check_fonts (ad 22) cdv A outer s H E) (lcT cA E [] vs).W := takes_of rfl rfl rfl rfl
  have pv : PassesOwn (model P w) (cxT P w K mg base N_check_fonts "check_fonts" s_check_fonts (ad 22) cdv A outer s H E).A (cxT P w K mg base N_check_fonts "check_fonts" s_check_fonts (ad 22) cdv A outer s H E).env (cxT P w K mg base N_check_fonts "check_fonts" s_check_fonts (ad 22) cdv A outer s H E).xe := passes_of rfl
  exact (db_one (ds_if (dt_not (dt_of (de_isi tx.kit tx.n_isinstance (da_cons (de_v 0) (da_cons (de_cls (c := 5) tx.g_Fonts) da_nil))))) (db_one ds_never) db_nil))
theorem sc_is_path : FnScope N_is_path ["thing"] (defScope s_is_path) := ⟨rfl, rfl, rfl, by decide +kernel, rfl, by decide +kernel, by decide +kernel⟩
theorem ok_is_path (tx : Txt w K mg cA ad fd) : FnT P w K mg base cA 4 (ad 23) (fd 23) ["thing"] [] F_is_path := by
  have nd : (N_is_path).Nodup := sc_is_path.nd
  refine fn_ok (x := "is_path") [] tx.F_is_path sc_is_path rfl fun cdv A outer s H vs E hr => ?_
  have hu := hu_ofR hr
  have tk : Takes (cxT P w K mg base N_is_path "is_path" s_is_path (ad 23) cdv A outer s H E) (lcT cA E [] vs).W := takes_of rfl rfl rfl rfl
  have pv : PassesOwn (model P w) (cxT P w K mg base N_is_path "is_path" s_is_path (ad 23) cdv A outer s H E).A (cxT P w K mg base N_is_path "is_path" s_is_path (ad 23) cdv A outer s H E).env (cxT P w K mg base N_is_path "is_path" s_is_path (ad 23) cdv A outer s H E).xe := passes_of rfl
  exact (db_one (ds_ret (de_and (de_isi tx.kit tx.n_isinstance (da_cons (de_v 0) (da_cons (de_ty (n := "tuple") tx.n_tuple PyProof.Rows.Boot.tuple) da_nil))) (de_one (de_all rfl tx.n_all (da_cons (de_lc (own := [("one", 1)]) rfl nd (di_seq (de_v 0)) (by first | rfl | decide +kernel) (fun _ _ _ _ _ => (dg_name 1 nd)) (fun _ _ _ _ _ => dts_nil) (fun _ _ _ _ _ => (de_and (de_call (ok_is_integer tx) (hr.mono (by decide)) takes0 tx.g_is_integer tx.F_is_integer.kp tx.b_is_integer .nil Dfl.nil (dl_cons (de_v 1) dl_nil)) (de_one (de_cmp cr_ge (de_v 1) de_int))))) da_nil))))))
theorem sc_is_whole : FnScope N_is_whole ["thing"] (defScope s_is_whole) := ⟨rfl, rfl, rfl, by decide +kernel, rfl, by decide +kernel, by decide +kernel⟩
theorem ok_is_whole (tx : Txt w K mg cA ad fd) : FnT P w K mg base cA 5 (ad 24) (fd 24) ["thing"] [] F_is_whole := by
  have nd : (N_is_whole).Nodup := sc_is_whole.nd
  obtain ⟨u_MOST, g_MOST, c_MOST⟩ := tx.gc_MOST
  refine fn_ok (x := "is_whole") [] tx.F_is_whole sc_is_whole rfl fun cdv A outer s H vs E hr => ?_
  have hu := hu_ofR hr
  have tk : Takes (cxT P w K mg base N_is_whole "is_whole" s_is_whole (ad 24) cdv A outer s H E) (lcT cA E [] vs).W := takes_of rfl rfl rfl rfl
  have pv : PassesOwn (model P w) (cxT P w K mg base N_is_whole "is_whole" s_is_whole (ad 24) cdv A outer s H E).A (cxT P w K mg base N_is_whole "is_whole" s_is_whole (ad 24) cdv A outer s H E).env (cxT P w K mg base N_is_whole "is_whole" s_is_whole (ad 24) cdv A outer s H E).xe := passes_of rfl
  exact (db_one (ds_ret (de_call (ok_is_between tx) (hr.mono (by decide)) tk tx.g_is_between tx.F_is_between.kp tx.b_is_between .nil Dfl.nil (dl_cons (de_v 0) (dl_cons (de_neg (de_con g_MOST c_MOST)) (dl_cons (de_con g_MOST c_MOST) dl_nil))))))
theorem sc_is_mark : FnScope N_is_mark ["thing"] (defScope s_is_mark) := ⟨rfl, rfl, rfl, by decide +kernel, rfl, by decide +kernel, by decide +kernel⟩
theorem ok_is_mark (tx : Txt w K mg cA ad fd) : FnT P w K mg base cA 6 (ad 25) (fd 25) ["thing"] [] F_is_mark := by
  have nd : (N_is_mark).Nodup := sc_is_mark.nd
  refine fn_ok (x := "is_mark") [] tx.F_is_mark sc_is_mark rfl fun cdv A outer s H vs E hr => ?_
  have hu := hu_ofR hr
  have tk : Takes (cxT P w K mg base N_is_mark "is_mark" s_is_mark (ad 25) cdv A outer s H E) (lcT cA E [] vs).W := takes_of rfl rfl rfl rfl
  have pv : PassesOwn (model P w) (cxT P w K mg base N_is_mark "is_mark" s_is_mark (ad 25) cdv A outer s H E).A (cxT P w K mg base N_is_mark "is_mark" s_is_mark (ad 25) cdv A outer s H E).env (cxT P w K mg base N_is_mark "is_mark" s_is_mark (ad 25) cdv A outer s H E).xe := passes_of rfl
  exact (db_cons (ds_if (dt_w (dw_or (dt_not (dt_of (de_isi tx.kit tx.n_isinstance (da_cons (de_v 0) (da_cons (de_ty (n := "tuple") tx.n_tuple PyProof.Rows.Boot.tuple) da_nil))))) (dw_or (dt_cmp cr_lt (de_len tx.n_len (da_cons (de_v 0) da_nil)) de_int) (dw_or (dt_not (dt_of (de_call (ok_is_path tx) (hr.mono (by decide)) tk tx.g_is_path tx.F_is_path.kp tx.b_is_path .nil Dfl.nil (dl_cons (de_ix (de_v 0) de_int) dl_nil)))) (dw_or1 (dt_not (dt_of (de_isi tx.kit tx.n_isinstance (da_cons (de_ix (de_v 0) de_int) (da_cons (de_ty (n := "str") tx.n_str PyProof.Rows.Boot.str) da_nil)))))))))) (db_one (ds_ret de_bl)) db_nil)
  (db_cons (ds_if (dt_cmp (cr_eq hu) (de_ix (de_v 0) de_int) de_str) (db_one (ds_ret (de_and (de_cmp (cr_eq hu) (de_len tx.n_len (da_cons (de_v 0) da_nil)) de_int) (de_and (de_call (ok_is_whole tx) (hr.mono (by decide)) tk tx.g_is_whole tx.F_is_whole.kp tx.b_is_whole .nil Dfl.nil (dl_cons (de_ix (de_v 0) de_int) dl_nil)) (de_one (de_call (ok_is_whole tx) (hr.mono (by decide)) tk tx.g_is_whole tx.F_is_whole.kp tx.b_is_whole .nil Dfl.nil (dl_cons (de_ix (de_v 0) de_int) dl_nil))))))) db_nil)
  (db_cons (ds_if (dt_w (dw_or (dt_cmp (cr_ne hu) (de_ix (de_v 0) de_int) de_str) (dw_or1 (dt_cmp (cr_ne hu) (de_len tx.n_len (da_cons (de_v 0) da_nil)) de_int)))) (db_one (ds_ret de_bl)) db_nil)
  (db_one (ds_ret (de_and (de_call (ok_is_between tx) (hr.mono (by decide)) tk tx.g_is_between tx.F_is_between.kp tx.b_is_between .nil Dfl.nil (dl_cons (de_ix (de_v 0) de_int) (dl_cons de_int (dl_cons de_int dl_nil)))) (de_and (de_call (ok_is_between tx) (hr.mono (by decide)) tk tx.g_is_between tx.F_is_between.kp tx.b_is_between .nil Dfl.nil (dl_cons (de_ix (de_v 0) de_int) (dl_cons de_int (dl_cons de_int dl_nil)))) (de_one (de_call (ok_is_name tx) (hr.mono (by decide)) tk tx.g_is_name tx.F_is_name.kp tx.b_is_name .nil Dfl.nil (dl_cons (de_ix (de_v 0) de_int) dl_nil))))))))))
theorem sc_is_placed : FnScope N_is_placed ["thing"] (defScope s_is_placed) := ⟨rfl, rfl, rfl, by decide +kernel, rfl, by decide +kernel, by decide +kernel⟩
theorem ok_is_placed (tx : Txt w K mg cA ad fd) : FnT P w K mg base cA 7 (ad 26) (fd 26) ["thing"] [] F_is_placed := by
  have nd : (N_is_placed).Nodup := sc_is_placed.nd
  refine fn_ok (x := "is_placed") [] tx.F_is_placed sc_is_placed rfl fun cdv A outer s H vs E hr => ?_
  have hu := hu_ofR hr
  have tk : Takes (cxT P w K mg base N_is_placed "is_placed" s_is_placed (ad 26) cdv A outer s H E) (lcT cA E [] vs).W := takes_of rfl rfl rfl rfl
  have pv : PassesOwn (model P w) (cxT P w K mg base N_is_placed "is_placed" s_is_placed (ad 26) cdv A outer s H E).A (cxT P w K mg base N_is_placed "is_placed" s_is_placed (ad 26) cdv A outer s H E).env (cxT P w K mg base N_is_placed "is_placed" s_is_placed (ad 26) cdv A outer s H E).xe := passes_of rfl
  exact (db_one (ds_ret (de_and (de_call (ok_is_tuple tx) (hr.mono (by decide)) tk tx.g_is_tuple tx.F_is_tuple.kp tx.b_is_tuple .nil Dfl.nil (dl_cons (de_v 0) (dl_cons de_int dl_nil))) (de_and (de_call (ok_is_whole tx) (hr.mono (by decide)) tk tx.g_is_whole tx.F_is_whole.kp tx.b_is_whole .nil Dfl.nil (dl_cons (de_ix (de_v 0) de_int) dl_nil)) (de_and (de_call (ok_is_whole tx) (hr.mono (by decide)) tk tx.g_is_whole tx.F_is_whole.kp tx.b_is_whole .nil Dfl.nil (dl_cons (de_ix (de_v 0) de_int) dl_nil)) (de_one (de_call (ok_is_mark tx) (hr.mono (by decide)) tk tx.g_is_mark tx.F_is_mark.kp tx.b_is_mark .nil Dfl.nil (dl_cons (de_ix (de_v 0) de_int) dl_nil))))))))
theorem sc_check_box : FnScope N_check_box ["box"] (defScope s_check_box) := ⟨rfl, rfl, rfl, by decide +kernel, rfl, by decide +kernel, by decide +kernel⟩
theorem ok_check_box (tx : Txt w K mg cA ad fd) : FnT P w K mg base cA 8 (ad 27) (fd 27) ["box"] [] F_check_box := by
  have nd : (N_check_box).Nodup := sc_check_box.nd
  refine fn_ok (x := "check_box") [] tx.F_check_box sc_check_box rfl fun cdv A outer s H vs E hr => ?_
  have hu := hu_ofR hr
  have tk : Takes (cxT P w K mg base N_check_box "check_box" s_check_box (ad 27) cdv A outer s H E) (lcT cA E [] vs).W := takes_of rfl rfl rfl rfl
  have pv : PassesOwn (model P w) (cxT P w K mg base N_check_box "check_box" s_check_box (ad 27) cdv A outer s H E).A (cxT P w K mg base N_check_box "check_box" s_check_box (ad 27) cdv A outer s H E).env (cxT P w K mg base N_check_box "check_box" s_check_box (ad 27) cdv A outer s H E).xe := passes_of rfl
  exact (db_cons (ds_if (dt_not (dt_of (de_isi tx.kit tx.n_isinstance (da_cons (de_v 0) (da_cons (de_cls (c := 6) tx.g_Box) da_nil))))) (db_one ds_never) db_nil)
  (db_cons (ds_for pv rfl (di_zip (da_cons (de_tup (da_cons de_str (da_cons de_str (da_cons de_str da_nil)))) (da_cons (de_call (ok_sizes_of tx) (hr.mono (by decide)) tk tx.g_sizes_of tx.F_sizes_of.kp tx.b_sizes_of .nil Dfl.nil (dl_cons (de_v 0) dl_nil)) da_nil)) tx.n_zip) (dg_tup rfl (dgs_cons (dg_name 1 nd) (dgs_cons (dg_name 2 nd) dgs_nil))) (db_one (ds_if (dt_not (dt_of (de_call (ok_is_whole tx) (hr.mono (by decide)) tk tx.g_is_whole tx.F_is_whole.kp tx.b_is_whole .nil Dfl.nil (dl_cons (de_v 2) dl_nil)))) (db_one ds_never) db_nil)))
  (db_one (ds_if (dt_w (dw_or (dt_not (dt_of (de_isi tx.kit tx.n_isinstance (da_cons (de_fld (cs := [6]) tx.f_marks (de_v 0)) (da_cons (de_ty (n := "list") tx.n_list PyProof.Rows.Boot.list) da_nil))))) (dw_or1 (dt_not (dt_of (de_all rfl tx.n_all (da_cons (de_lc (own := [("one", 3)]) rfl nd (di_seq (de_fld (cs := [6]) tx.f_marks (de_v 0))) (by first | rfl | decide +kernel) (fun _ _ _ _ _ => (dg_name 3 nd)) (fun _ _ _ _ _ => dts_nil) (fun _ _ _ _ _ => (de_call (ok_is_placed tx) (hr.mono (by decide)) takes0 tx.g_is_placed tx.F_is_placed.kp tx.b_is_placed .nil Dfl.nil (dl_cons (de_v 3) dl_nil)))) da_nil))))))) (db_one ds_never) db_nil))))
theorem sc_check_part : FnScope N_check_part ["part", "value"] (defScope s_check_part) := ⟨rfl, rfl, rfl, by decide +kernel, rfl, by decide +kernel, by decide +kernel⟩
theorem ok_check_part (tx : Txt w K mg cA ad fd) : FnT P w K mg base cA 9 (ad 28) (fd 28) ["part", "value"] [] F_check_part := by
  have nd : (N_check_part).Nodup := sc_check_part.nd
  refine fn_ok (x := "check_part") [] tx.F_check_part sc_check_part rfl fun cdv A outer s H vs E hr => ?_
  have hu := hu_ofR hr
  have tk : Takes (cxT P w K mg base N_check_part "check_part" s_check_part (ad 28) cdv A outer s H E) (lcT cA E [] vs).W := takes_of rfl rfl rfl rfl
  have pv : PassesOwn (model P w) (cxT P w K mg base N_check_part "check_part" s_check_part (ad 28) cdv A outer s H E).A (cxT P w K mg base N_check_part "check_part" s_check_part (ad 28) cdv A outer s H E).env (cxT P w K mg base N_check_part "check_part" s_check_part (ad 28) cdv A outer s H E).xe := passes_of rfl
  exact (db_one (ds_try nd tk (fun W pn xe t1 p1 => (db_one (ds_expr (de_call (ok_check_box tx) (hr.mono (by decide)) t1 tx.g_check_box tx.F_check_box.kp tx.b_check_box .nil Dfl.nil (dl_cons (de_v 1) dl_nil))))) (HdD.one (mt := mt_InvalidBox) ⟨rfl, by decide, .inl tx.g_InvalidBox⟩ tx.hm_InvalidBox (fun a oe cls d pn x hx hz hd => (dbx_of (db_one ds_never))) HdD.nil)))
theorem sc_check_style : FnScope N_check_style ["style"] (defScope s_check_style) := ⟨rfl, rfl, rfl, by decide +kernel, rfl, by decide +kernel, by decide +kernel⟩
theorem ok_check_style (tx : Txt w K mg cA ad fd) : FnT P w K mg base cA 5 (ad 29) (fd 29) ["style"] [] F_check_style := by
  have nd : (N_check_style).Nodup := sc_check_style.nd
  refine fn_ok (x := "check_style") [] tx.F_check_style sc_check_style rfl fun cdv A outer s H vs E hr => ?_
  have hu := hu_ofR hr
  have tk : Takes (cxT P w K mg base N_check_style "check_style" s_check_style (ad 29) cdv A outer s H E) (lcT cA E [] vs).W := takes_of rfl rfl rfl rfl
  have pv : PassesOwn (model P w) (cxT P w K mg base N_check_style "check_style" s_check_style (ad 29) cdv A outer s H E).A (cxT P w K mg base N_check_style "check_style" s_check_style (ad 29) cdv A outer s H E).env (cxT P w K mg base N_check_style "check_style" s_check_style (ad 29) cdv A outer s H E).xe := passes_of rfl
  exact (db_one (ds_if (dt_not (dt_of (de_call (ok_is_between tx) (hr.mono (by decide)) tk tx.g_is_between tx.F_is_between.kp tx.b_is_between .nil Dfl.nil (dl_cons (de_v 0) (dl_cons de_int (dl_cons de_int dl_nil)))))) (db_one ds_never) db_nil))
theorem sc_check_inner : FnScope N_check_inner ["fonts", "style", "inner"] (defScope s_check_inner) := ⟨rfl, rfl, rfl, by decide +kernel, rfl, by decide +kernel, by decide +kernel⟩
theorem ok_check_inner (tx : Txt w K mg cA ad fd) : FnT P w K mg base cA 10 (ad 30) (fd 30) ["fonts", "style", "inner"] [] F_check_inner := by
  have nd : (N_check_inner).Nodup := sc_check_inner.nd
  refine fn_ok (x := "check_inner") [] tx.F_check_inner sc_check_inner rfl fun cdv A outer s H vs E hr => ?_
  have hu := hu_ofR hr
  have tk : Takes (cxT P w K mg base N_check_inner "check_inner" s_check_inner (ad 30) cdv A outer s H E) (lcT cA E [] vs).W := takes_of rfl rfl rfl rfl
  have pv : PassesOwn (model P w) (cxT P w K mg base N_check_inner "check_inner" s_check_inner (ad 30) cdv A outer s H E).A (cxT P w K mg base N_check_inner "check_inner" s_check_inner (ad 30) cdv A outer s H E).env (cxT P w K mg base N_check_inner "check_inner" s_check_inner (ad 30) cdv A outer s H E).xe := passes_of rfl
  exact (db_cons (ds_expr (de_call (ok_check_fonts tx) (hr.mono (by decide)) tk tx.g_check_fonts tx.F_check_fonts.kp tx.b_check_fonts .nil Dfl.nil (dl_cons (de_v 0) dl_nil)))
  (db_cons (ds_expr (de_call (ok_check_style tx) (hr.mono (by decide)) tk tx.g_check_style tx.F_check_style.kp tx.b_check_style .nil Dfl.nil (dl_cons (de_v 1) dl_nil)))
  (db_one (ds_expr (de_call (ok_check_part tx) (hr.mono (by decide)) tk tx.g_check_part tx.F_check_part.kp tx.b_check_part .nil Dfl.nil (dl_cons de_str (dl_cons (de_v 2) dl_nil)))))))
theorem sc_Fonts_amount : FnScope N_Fonts_amount ["self", "size", "word"] (defScope s_Fonts_amount) := ⟨rfl, rfl, rfl, by decide +kernel, rfl, by decide +kernel, by decide +kernel⟩
theorem ok_Fonts_amount (tx : Txt w K mg cA ad fd) : FnT P w K mg base cA 3 (ad 31) (fd 31) ["self", "size", "word"] [] F_Fonts_amount := by
  have nd : (N_Fonts_amount).Nodup := sc_Fonts_amount.nd
  refine fn_ok (x := "amount") [] tx.F_Fonts_amount sc_Fonts_amount rfl fun cdv A outer s H vs E hr => ?_
  have hu := hu_ofR hr
  have tk : Takes (cxT P w K mg base N_Fonts_amount "Fonts.amount" s_Fonts_amount (ad 31) cdv A outer s H E) (lcT cA E [] vs).W := takes_of rfl rfl rfl rfl
  have pv : PassesOwn (model P w) (cxT P w K mg base N_Fonts_amount "Fonts.amount" s_Fonts_amount (ad 31) cdv A outer s H E).A (cxT P w K mg base N_Fonts_amount "Fonts.amount" s_Fonts_amount (ad 31) cdv A outer s H E).env (cxT P w K mg base N_Fonts_amount "Fonts.amount" s_Fonts_amount (ad 31) cdv A outer s H E).xe := passes_of rfl
  exact (db_one (ds_ret (de_ixA hu (de_ix (de_fld (cs := [5]) tx.f_number_rows (de_v 0)) (de_v 1)) (de_v 2))))
theorem sc_rule_box : FnScope N_rule_box ["path", "width", "height"] (defScope s_rule_box) := ⟨rfl, rfl, rfl, by decide +kernel, rfl, by decide +kernel, by decide +kernel⟩
theorem ok_rule_box (tx : Txt w K mg cA ad fd) : FnT P w K mg base cA 5 (ad 32) (fd 32) ["path", "width", "height"] [] F_rule_box := by
  have nd : (N_rule_box).Nodup := sc_rule_box.nd
  refine fn_ok (x := "rule_box") [] tx.F_rule_box sc_rule_box rfl fun cdv A outer s H vs E hr => ?_
  have hu := hu_ofR hr
  have tk : Takes (cxT P w K mg base N_rule_box "rule_box" s_rule_box (ad 32) cdv A outer s H E) (lcT cA E [] vs).W := takes_of rfl rfl rfl rfl
  have pv : PassesOwn (model P w) (cxT P w K mg base N_rule_box "rule_box" s_rule_box (ad 32) cdv A outer s H E).A (cxT P w K mg base N_rule_box "rule_box" s_rule_box (ad 32) cdv A outer s H E).env (cxT P w K mg base N_rule_box "rule_box" s_rule_box (ad 32) cdv A outer s H E).xe := passes_of rfl
  exact (db_one (ds_ret (de_make (c := 6) (n := 4) tx.M_Box (ok_Boxdd_initdd tx) (hr.mono (by decide)) tk tx.g_Box tx.b_Boxdd_initdd .nil Dfl.nil (da_cons (de_v 1) (da_cons (de_v 2) (da_cons de_int (da_cons (de_lst (da_cons (de_tup (da_cons de_int (da_cons de_int (da_cons (de_tup (da_cons de_str (da_cons (de_v 0) (da_cons (de_v 1) (da_cons (de_v 2) da_nil))))) da_nil)))) da_nil)) da_nil)))))))
theorem sc_size_of : FnScope N_size_of ["style"] (defScope s_size_of) := ⟨rfl, rfl, rfl, by decide +kernel, rfl, by decide +kernel, by decide +kernel⟩
theorem ok_size_of (tx : Txt w K mg cA ad fd) : FnT P w K mg base cA 3 (ad 33) (fd 33) ["style"] [] F_size_of := by
  have nd : (N_size_of).Nodup := sc_size_of.nd
  refine fn_ok (x := "size_of") [] tx.F_size_of sc_size_of rfl fun cdv A outer s H vs E hr => ?_
  have hu := hu_ofR hr
  have tk : Takes (cxT P w K mg base N_size_of "size_of" s_size_of (ad 33) cdv A outer s H E) (lcT cA E [] vs).W := takes_of rfl rfl rfl rfl
  have pv : PassesOwn (model P w) (cxT P w K mg base N_size_of "size_of" s_size_of (ad 33) cdv A outer s H E).A (cxT P w K mg base N_size_of "size_of" s_size_of (ad 33) cdv A outer s H E).env (cxT P w K mg base N_size_of "size_of" s_size_of (ad 33) cdv A outer s H E).xe := passes_of rfl
  exact (db_one (ds_ret (de_max2 rfl tx.n_max (da_cons de_int (da_cons (de_sub (de_fdiv (de_v 0) de_int) de_int) da_nil)))))
theorem sc_marks_moved : FnScope N_marks_moved ["box", "dx", "dy"] (defScope s_marks_moved) := ⟨rfl, rfl, rfl, by decide +kernel, rfl, by decide +kernel, by decide +kernel⟩
theorem ok_marks_moved (tx : Txt w K mg cA ad fd) : FnT P w K mg base cA 3 (ad 34) (fd 34) ["box", "dx", "dy"] [] F_marks_moved := by
  have nd : (N_marks_moved).Nodup := sc_marks_moved.nd
  refine fn_ok (x := "marks_moved") [] tx.F_marks_moved sc_marks_moved rfl fun cdv A outer s H vs E hr => ?_
  have hu := hu_ofR hr
  have tk : Takes (cxT P w K mg base N_marks_moved "marks_moved" s_marks_moved (ad 34) cdv A outer s H E) (lcT cA E [] vs).W := takes_of rfl rfl rfl rfl
  have pv : PassesOwn (model P w) (cxT P w K mg base N_marks_moved "marks_moved" s_marks_moved (ad 34) cdv A outer s H E).A (cxT P w K mg base N_marks_moved "marks_moved" s_marks_moved (ad 34) cdv A outer s H E).env (cxT P w K mg base N_marks_moved "marks_moved" s_marks_moved (ad 34) cdv A outer s H E).xe := passes_of rfl
  exact (db_one (ds_ret (de_lc (own := [("x", 3), ("y", 4), ("mark", 5)]) rfl nd (di_seq (de_fld (cs := [6]) tx.f_marks (de_v 0))) (by first | rfl | decide +kernel) (fun _ _ _ _ _ => (dg_tup rfl (dgs_cons (dg_name 3 nd) (dgs_cons (dg_name 4 nd) (dgs_cons (dg_name 5 nd) dgs_nil))))) (fun _ _ _ _ _ => dts_nil) (fun _ _ _ _ _ => (de_tup (da_cons (de_add (de_v 3) (de_v 1)) (da_cons (de_add (de_v 4) (de_v 2)) (da_cons (de_v 5) da_nil))))))))
theorem sc_together_box : FnScope N_together_box ["width", "height", "depth", "placed"] (defScope s_together_box) := ⟨rfl, rfl, rfl, by decide +kernel, rfl, by decide +kernel, by decide +kernel⟩
theorem ok_together_box (tx : Txt w K mg cA ad fd) : FnT P w K mg base cA 5 (ad 35) (fd 35) ["width", "height", "depth", "placed"] [] F_together_box := by
  have nd : (N_together_box).Nodup := sc_together_box.nd
  refine fn_ok (x := "together_box") [] tx.F_together_box sc_together_box rfl fun cdv A outer s H vs E hr => ?_
  have hu := hu_ofR hr
  have tk : Takes (cxT P w K mg base N_together_box "together_box" s_together_box (ad 35) cdv A outer s H E) (lcT cA E [] vs).W := takes_of rfl rfl rfl rfl
  have pv : PassesOwn (model P w) (cxT P w K mg base N_together_box "together_box" s_together_box (ad 35) cdv A outer s H E).A (cxT P w K mg base N_together_box "together_box" s_together_box (ad 35) cdv A outer s H E).env (cxT P w K mg base N_together_box "together_box" s_together_box (ad 35) cdv A outer s H E).xe := passes_of rfl
  exact (db_cons (ds_set 4 nd (de_lst da_nil))
  (db_cons (ds_for pv rfl (di_seq (de_v 3)) (dg_tup rfl (dgs_cons (dg_name 5 nd) (dgs_cons (dg_name 6 nd) (dgs_cons (dg_name 7 nd) dgs_nil)))) (db_one (ds_ext 4 (de_call (ok_marks_moved tx) (hr.mono (by decide)) tk tx.g_marks_moved tx.F_marks_moved.kp tx.b_marks_moved .nil Dfl.nil (dl_cons (de_v 5) (dl_cons (de_v 6) (dl_cons (de_v 7) dl_nil)))))))
  (db_one (ds_ret (de_b (de_make (c := 6) (n := 4) tx.M_Box (ok_Boxdd_initdd tx) (hr.mono (by decide)) tk tx.g_Box tx.b_Boxdd_initdd .nil Dfl.nil (da_cons (de_v 0) (da_cons (de_v 1) (da_cons (de_v 2) (da_cons (de_v 4) da_nil))))))))))
theorem sc_over_box : FnScope N_over_box ["fonts", "style", "path", "inner"] (defScope s_over_box) := ⟨rfl, rfl, rfl, by decide +kernel, rfl, by decide +kernel, by decide +kernel⟩
theorem ok_over_box (tx : Txt w K mg cA ad fd) : FnT P w K mg base cA 6 (ad 36) (fd 36) ["fonts", "style", "path", "inner"] [] F_over_box := by
  have nd : (N_over_box).Nodup := sc_over_box.nd
  refine fn_ok (x := "over_box") [] tx.F_over_box sc_over_box rfl fun cdv A outer s H vs E hr => ?_
  have hu := hu_ofR hr
  have tk : Takes (cxT P w K mg base N_over_box "over_box" s_over_box (ad 36) cdv A outer s H E) (lcT cA E [] vs).W := takes_of rfl rfl rfl rfl
  have pv : PassesOwn (model P w) (cxT P w K mg base N_over_box "over_box" s_over_box (ad 36) cdv A outer s H E).A (cxT P w K mg base N_over_box "over_box" s_over_box (ad 36) cdv A outer s H E).env (cxT P w K mg base N_over_box "over_box" s_over_box (ad 36) cdv A outer s H E).xe := passes_of rfl
  exact (db_cons (ds_set 4 nd (de_meth (c := 5) (de_v 0) tx.C_Fonts tx.m_Fonts_amount (ok_Fonts_amount tx) (hr.mono (by decide)) tk tx.b_Fonts_amount .nil Dfl.nil (dl_cons (de_call (ok_size_of tx) (hr.mono (by decide)) tk tx.g_size_of tx.F_size_of.kp tx.b_size_of .nil Dfl.nil (dl_cons (de_v 1) dl_nil)) (dl_cons de_str dl_nil))))
  (db_cons (ds_set 5 nd (de_call (ok_rule_box tx) (hr.mono (by decide)) tk tx.g_rule_box tx.F_rule_box.kp tx.b_rule_box .nil Dfl.nil (dl_cons (de_v 2) (dl_cons (de_fld (cs := [6]) tx.f_width (de_v 3)) (dl_cons (de_v 4) dl_nil)))))
  (db_cons (ds_set 6 nd (de_add (de_fld (cs := [6]) tx.f_height (de_v 3)) (de_mulI de_int (de_v 4))))
  (db_one (ds_ret (de_call (ok_together_box tx) (hr.mono (by decide)) tk tx.g_together_box tx.F_together_box.kp tx.b_together_box .nil Dfl.nil (dl_cons (de_fld (cs := [6]) tx.f_width (de_v 3)) (dl_cons (de_v 6) (dl_cons (de_fld (cs := [6]) tx.f_depth (de_v 3)) (dl_cons (de_lst (da_cons (de_tup (da_cons (de_v 3) (da_cons de_int (da_cons de_int da_nil)))) (da_cons (de_tup (da_cons (de_v 5) (da_cons de_int (da_cons (de_add (de_fld (cs := [6]) tx.f_height (de_v 3)) (de_mulI de_int (de_v 4))) da_nil)))) da_nil))) dl_nil))))))))))
theorem sc_overlined : FnScope N_overlined ["fonts", "style", "inner"] (defScope s_overlined) := ⟨rfl, rfl, rfl, by decide +kernel, rfl, by decide +kernel, by decide +kernel⟩
theorem ok_overlined (tx : Txt w K mg cA ad fd) : FnT P w K mg base cA 11 (ad 37) (fd 37) ["fonts", "style", "inner"] [] F_overlined := by
  have nd : (N_overlined).Nodup := sc_overlined.nd
  refine fn_ok (x := "overlined") [] tx.F_overlined sc_overlined rfl fun cdv A outer s H vs E hr => ?_
  have hu := hu_ofR hr
  have tk : Takes (cxT P w K mg base N_overlined "overlined" s_overlined (ad 37) cdv A outer s H E) (lcT cA E [] vs).W := takes_of rfl rfl rfl rfl
  have pv : PassesOwn (model P w) (cxT P w K mg base N_overlined "overlined" s_overlined (ad 37) cdv A outer s H E).A (cxT P w K mg base N_overlined "overlined" s_overlined (ad 37) cdv A outer s H E).env (cxT P w K mg base N_overlined "overlined" s_overlined (ad 37) cdv A outer s H E).xe := passes_of rfl
  exact (db_cons (ds_expr (de_call (ok_check_inner tx) (hr.mono (by decide)) tk tx.g_check_inner tx.F_check_inner.kp tx.b_check_inner .nil Dfl.nil (dl_cons (de_v 0) (dl_cons (de_v 1) (dl_cons (de_v 2) dl_nil)))))
  (db_one (ds_ret (de_call (ok_over_box tx) (hr.mono (by decide)) tk tx.g_over_box tx.F_over_box.kp tx.b_over_box .nil Dfl.nil (dl_cons (de_v 0) (dl_cons (de_v 1) (dl_cons (de_tup da_nil) (dl_cons (de_v 2) dl_nil))))))))
theorem sc_under_box : FnScope N_under_box ["fonts", "style", "path", "inner"] (defScope s_under_box) := ⟨rfl, rfl, rfl, by decide +kernel, rfl, by decide +kernel, by decide +kernel⟩
theorem ok_under_box (tx : Txt w K mg cA ad fd) : FnT P w K mg base cA 6 (ad 38) (fd 38) ["fonts", "style", "path", "inner"] [] F_under_box := by
  have nd : (N_under_box).Nodup := sc_under_box.nd
  refine fn_ok (x := "under_box") [] tx.F_under_box sc_under_box rfl fun cdv A outer s H vs E hr => ?_
  have hu := hu_ofR hr
  have tk : Takes (cxT P w K mg base N_under_box "under_box" s_under_box (ad 38) cdv A outer s H E) (lcT cA E [] vs).W := takes_of rfl rfl rfl rfl
  have pv : PassesOwn (model P w) (cxT P w K mg base N_under_box "under_box" s_under_box (ad 38) cdv A outer s H E).A (cxT P w K mg base N_under_box "under_box" s_under_box (ad 38) cdv A outer s H E).env (cxT P w K mg base N_under_box "under_box" s_under_box (ad 38) cdv A outer s H E).xe := passes_of rfl
  exact (db_cons (ds_set 4 nd (de_meth (c := 5) (de_v 0) tx.C_Fonts tx.m_Fonts_amount (ok_Fonts_amount tx) (hr.mono (by decide)) tk tx.b_Fonts_amount .nil Dfl.nil (dl_cons (de_call (ok_size_of tx) (hr.mono (by decide)) tk tx.g_size_of tx.F_size_of.kp tx.b_size_of .nil Dfl.nil (dl_cons (de_v 1) dl_nil)) (dl_cons de_str dl_nil))))
  (db_cons (ds_set 5 nd (de_call (ok_rule_box tx) (hr.mono (by decide)) tk tx.g_rule_box tx.F_rule_box.kp tx.b_rule_box .nil Dfl.nil (dl_cons (de_v 2) (dl_cons (de_fld (cs := [6]) tx.f_width (de_v 3)) (dl_cons (de_v 4) dl_nil)))))
  (db_cons (ds_set 6 nd (de_add (de_fld (cs := [6]) tx.f_depth (de_v 3)) (de_mulI de_int (de_v 4))))
  (db_one (ds_ret (de_call (ok_together_box tx) (hr.mono (by decide)) tk tx.g_together_box tx.F_together_box.kp tx.b_together_box .nil Dfl.nil (dl_cons (de_fld (cs := [6]) tx.f_width (de_v 3)) (dl_cons (de_fld (cs := [6]) tx.f_height (de_v 3)) (dl_cons (de_v 6) (dl_cons (de_lst (da_cons (de_tup (da_cons (de_v 3) (da_cons de_int (da_cons de_int da_nil)))) (da_cons (de_tup (da_cons (de_v 5) (da_cons de_int (da_cons (de_sub (de_sub de_int (de_fld (cs := [6]) tx.f_depth (de_v 3))) (de_mulI de_int (de_v 4))) da_nil)))) da_nil))) dl_nil))))))))))
theorem sc_underlined : FnScope N_underlined ["fonts", "style", "inner"] (defScope s_underlined) := ⟨rfl, rfl, rfl, by decide +kernel, rfl, by decide +kernel, by decide +kernel⟩
theorem ok_underlined (tx : Txt w K mg cA ad fd) : FnT P w K mg base cA 11 (ad 39) (fd 39) ["fonts", "style", "inner"] [] F_underlined := by
  have nd : (N_underlined).Nodup := sc_underlined.nd
  refine fn_ok (x := "underlined") [] tx.F_underlined sc_underlined rfl fun cdv A outer s H vs E hr => ?_
  have hu := hu_ofR hr
  have tk : Takes (cxT P w K mg base N_underlined "underlined" s_underlined (ad 39) cdv A outer s H E) (lcT cA E [] vs).W := takes_of rfl rfl rfl rfl
  have pv : PassesOwn (model P w) (cxT P w K mg base N_underlined "underlined" s_underlined (ad 39) cdv A outer s H E).A (cxT P w K mg base N_underlined "underlined" s_underlined (ad 39) cdv A outer s H E).env (cxT P w K mg base N_underlined "underlined" s_underlined (ad 39) cdv A outer s H E).xe := passes_of rfl
  exact (db_cons (ds_expr (de_call (ok_check_inner tx) (hr.mono (by decide)) tk tx.g_check_inner tx.F_check_inner.kp tx.b_check_inner .nil Dfl.nil (dl_cons (de_v 0) (dl_cons (de_v 1) (dl_cons (de_v 2) dl_nil)))))
  (db_one (ds_ret (de_call (ok_under_box tx) (hr.mono (by decide)) tk tx.g_under_box tx.F_under_box.kp tx.b_under_box .nil Dfl.nil (dl_cons (de_v 0) (dl_cons (de_v 1) (dl_cons (de_tup da_nil) (dl_cons (de_v 2) dl_nil))))))))
theorem sc_law_right : FnScope N_law_right ["fonts", "world", "style", "box"] (defScope s_law_right) := ⟨rfl, rfl, rfl, by decide +kernel, rfl, by decide +kernel, by decide +kernel⟩
theorem ok_law_right (tx : Txt w K mg cA ad fd) : FnT P w K mg base cA 12 (ad 40) (fd 40) ["fonts", "world", "style", "box"] [] F_law_right := by
  have nd : (N_law_right).Nodup := sc_law_right.nd
  refine fn_ok (x := "_law_right") [] tx.F_law_right sc_law_right rfl fun cdv A outer s H vs E hr => ?_
  have hu := hu_ofR hr
  have tk : Takes (cxT P w K mg base N_law_right "_law_right" s_law_right (ad 40) cdv A outer s H E) (lcT cA E [] vs).W := takes_of rfl rfl rfl rfl
  have pv : PassesOwn (model P w) (cxT P w K mg base N_law_right "_law_right" s_law_right (ad 40) cdv A outer s H E).A (cxT P w K mg base N_law_right "_law_right" s_law_right (ad 40) cdv A outer s H E).env (cxT P w K mg base N_law_right "_law_right" s_law_right (ad 40) cdv A outer s H E).xe := passes_of rfl
  exact (db_cons (ds_par 5 6 nd (da_cons (de_ixA hu (de_ix (de_ixA hu (de_v 1) de_str) (de_call (ok_law_size tx) (hr.mono (by decide)) tk tx.g_law_size tx.F_law_size.kp tx.b_law_size .nil Dfl.nil (dl_cons (de_v 2) dl_nil))) de_str) (da_cons (de_make (c := 6) (n := 4) tx.M_Box (ok_Boxdd_initdd tx) (hr.mono (by decide)) tk tx.g_Box tx.b_Boxdd_initdd .nil Dfl.nil (da_cons (de_fld (cs := [6]) tx.f_width (de_v 3)) (da_cons (de_fld (cs := [6]) tx.f_height (de_v 3)) (da_cons (de_fld (cs := [6]) tx.f_depth (de_v 3)) (da_cons (de_fld (cs := [6]) tx.f_marks (de_v 3)) da_nil))))) da_nil)))
  (db_cons (ds_for pv rfl (di_range (da_cons de_int da_nil) tx.n_range) (dg_name 4 nd) (db_cons (ds_par 7 8 nd (da_cons (de_call (ok_overlined tx) (hr.mono (by decide)) tk tx.g_overlined tx.F_overlined.kp tx.b_overlined .nil Dfl.nil (dl_cons (de_v 0) (dl_cons (de_v 2) (dl_cons (de_v 3) dl_nil)))) (da_cons (de_call (ok_underlined tx) (hr.mono (by decide)) tk tx.g_underlined tx.F_underlined.kp tx.b_underlined .nil Dfl.nil (dl_cons (de_v 0) (dl_cons (de_v 2) (dl_cons (de_v 3) dl_nil)))) da_nil)))
  (db_cons (ds_if (dt_b (dt_w (dw_or (dt_cmp (cr_neOwn (c := 6) tx.q_Box (ok_Boxdd_eqdd tx) (hr.mono (by decide)) tx.b_Boxdd_eqdd) (de_v 7) (de_call (ok_law_over tx) (hr.mono (by decide)) tk tx.g_law_over tx.F_law_over.kp tx.b_law_over .nil Dfl.nil (dl_cons (de_v 3) (dl_cons (de_v 5) dl_nil)))) (dw_or1 (dt_cmp (cr_neOwn (c := 6) tx.q_Box (ok_Boxdd_eqdd tx) (hr.mono (by decide)) tx.b_Boxdd_eqdd) (de_v 8) (de_call (ok_law_under tx) (hr.mono (by decide)) tk tx.g_law_under tx.F_law_under.kp tx.b_law_under .nil Dfl.nil (dl_cons (de_v 3) (dl_cons (de_v 5) dl_nil)))))))) (db_one (ds_ret de_bl)) db_nil)
  (db_cons (ds_if (dt_b (dt_w (dw_or (dt_cmp (cr_neOwn (c := 6) tx.q_Box (ok_Boxdd_eqdd tx) (hr.mono (by decide)) tx.b_Boxdd_eqdd) (de_call (ok_underlined tx) (hr.mono (by decide)) tk tx.g_underlined tx.F_underlined.kp tx.b_underlined .nil Dfl.nil (dl_cons (de_v 0) (dl_cons (de_v 2) (dl_cons (de_v 7) dl_nil)))) (de_call (ok_law_under tx) (hr.mono (by decide)) tk tx.g_law_under tx.F_law_under.kp tx.b_law_under .nil Dfl.nil (dl_cons (de_v 7) (dl_cons (de_v 5) dl_nil)))) (dw_or1 (dt_cmp (cr_eqOwn (c := 6) tx.q_Box (ok_Boxdd_eqdd tx) (hr.mono (by decide)) tx.b_Boxdd_eqdd) (de_call (ok_overlined tx) (hr.mono (by decide)) tk tx.g_overlined tx.F_overlined.kp tx.b_overlined .nil Dfl.nil (dl_cons (de_v 0) (dl_cons (de_v 2) (dl_cons (de_v 7) dl_nil)))) (de_v 7)))))) (db_one (ds_ret de_bl)) db_nil)
  (db_cons (ds_clrF (cs := [6]) 7 tx.f_marks)
  (db_one (ds_appF (cs := [6]) 8 tx.f_marks de_non)))))))
  (db_one (ds_ret (de_cmp (cr_eqOwn (c := 6) tx.q_Box (ok_Boxdd_eqdd tx) (hr.mono (by decide)) tx.b_Boxdd_eqdd) (de_v 3) (de_v 6))))))
theorem sc_law_words : FnScope N_law_words [] (defScope s_law_words) := ⟨rfl, rfl, rfl, by decide +kernel, rfl, by decide +kernel, by decide +kernel⟩
theorem ok_law_words (tx : Txt w K mg cA ad fd) : FnT P w K mg base cA 3 (ad 41) (fd 41) [] [] F_law_words := by
  have nd : (N_law_words).Nodup := sc_law_words.nd
  refine fn_ok (x := "_law_words") [] tx.F_law_words sc_law_words rfl fun cdv A outer s H vs E hr => ?_
  have hu := hu_ofR hr
  have tk : Takes (cxT P w K mg base N_law_words "_law_words" s_law_words (ad 41) cdv A outer s H E) (lcT cA E [] vs).W := takes_of rfl rfl rfl rfl
  have pv : PassesOwn (model P w) (cxT P w K mg base N_law_words "_law_words" s_law_words (ad 41) cdv A outer s H E).A (cxT P w K mg base N_law_words "_law_words" s_law_words (ad 41) cdv A outer s H E).env (cxT P w K mg base N_law_words "_law_words" s_law_words (ad 41) cdv A outer s H E).xe := passes_of rfl
  exact (db_cons (ds_set 0 nd de_str)
  (db_cons (ds_set 1 nd de_str)
  (db_one (ds_ret (de_tup (da_cons (de_words (de_add (de_v 0) de_str)) (da_cons (de_words (de_v 1)) da_nil)))))))
theorem sc_law_world : FnScope N_law_world ["digits", "grow"] (defScope s_law_world) := ⟨rfl, rfl, rfl, by decide +kernel, rfl, by decide +kernel, by decide +kernel⟩
theorem ok_law_world (tx : Txt w K mg cA ad fd) : FnT P w K mg base cA 4 (ad 42) (fd 42) ["digits", "grow"] [] F_law_world := by
  have nd : (N_law_world).Nodup := sc_law_world.nd
  refine fn_ok (x := "_law_world") [] tx.F_law_world sc_law_world rfl fun cdv A outer s H vs E hr => ?_
  have hu := hu_ofR hr
  have tk : Takes (cxT P w K mg base N_law_world "_law_world" s_law_world (ad 42) cdv A outer s H E) (lcT cA E [] vs).W := takes_of rfl rfl rfl rfl
  have pv : PassesOwn (model P w) (cxT P w K mg base N_law_world "_law_world" s_law_world (ad 42) cdv A outer s H E).A (cxT P w K mg base N_law_world "_law_world" s_law_world (ad 42) cdv A outer s H E).env (cxT P w K mg base N_law_world "_law_world" s_law_world (ad 42) cdv A outer s H E).xe := passes_of rfl
  exact (db_cons (ds_asg (de_call0 (ok_law_words tx) (hr.mono (by decide)) tk tx.g_law_words tx.F_law_words.kp tx.b_law_words) (dg_tup rfl (dgs_cons (dg_name 5 nd) (dgs_cons (dg_name 6 nd) dgs_nil))))
  (db_cons (ds_set 2 nd (de_lst da_nil))
  (db_cons (ds_for pv rfl (di_range (da_cons de_int da_nil) tx.n_range) (dg_name 3 nd) (db_cons (ds_set 7 nd de_dict0)
  (db_cons (ds_for pv rfl (di_enum (da_cons (de_v 5) da_nil) tx.n_enumerate) (dg_tup rfl (dgs_cons (dg_name 8 nd) (dgs_cons (dg_name 9 nd) dgs_nil))) (db_cons (ds_set 10 nd (de_intC tx.n_int (da_cons (de_ix (de_v 0) (de_add (de_mulI de_int (de_v 3)) (de_v 8))) da_nil)))
  (db_one (ds_setK 7 hu (de_add (de_mulI (de_ix (de_lst (da_cons (de_v 10) (da_cons (de_mod (de_intC tx.n_int (da_cons (de_v 10) da_nil)) de_int) (da_cons (de_fdiv (de_v 10) de_int) (da_cons de_int da_nil))))) (de_mod (de_intC tx.n_int (da_cons (de_fdiv (de_v 10) de_int) da_nil)) de_int)) (de_v 1)) (de_mod (de_intC tx.n_int (da_cons (de_v 10) da_nil)) de_int)) (de_v 9)))))
  (db_one (ds_app 2 (de_mv 7))))))
  (db_cons (ds_set 4 nd (de_dictP rfl tx.n_dict (da_cons (de_lc (own := [("at", 8), ("word", 9)]) rfl nd (di_enum (da_cons (de_v 6) da_nil) tx.n_enumerate) (by first | rfl | decide +kernel) (fun _ _ _ _ _ => (dg_tup rfl (dgs_cons (dg_name 8 nd) (dgs_cons (dg_name 9 nd) dgs_nil)))) (fun _ _ _ _ _ => dts_nil) (fun _ _ _ _ _ => (de_tup (da_cons (de_v 9) (da_cons (de_mulI (de_mod (de_intC tx.n_int (da_cons (de_ix (de_v 0) (de_add de_int (de_v 8))) da_nil)) de_int) (de_v 1)) da_nil))))) da_nil)))
  (db_cons (ds_setK 4 hu (de_mod (de_intC tx.n_int (da_cons (de_ix (de_v 0) de_int) da_nil)) de_int) de_str)
  (db_one (ds_ret (de_disp (dp_cons (de_mv 2) (dp_cons (de_mv 4) dp_nil))))))))))
theorem sc_law : FnScope N_law ["script"] (defScope s_law) := ⟨rfl, rfl, rfl, by decide +kernel, rfl, by decide +kernel, by decide +kernel⟩
theorem ok_law (tx : Txt w K mg cA ad fd) : FnT P w K mg base cA 13 (ad 43) (fd 43) ["script"] [] F_law := by
  have nd : (N_law).Nodup := sc_law.nd
  obtain ⟨e_Boxdd_initdd, kt_Boxdd_initdd, bt_Boxdd_initdd⟩ := tx.bt_Boxdd_initdd
  refine fn_ok (x := "law") [] tx.F_law sc_law rfl fun cdv A outer s H vs E hr => ?_
  have hu := hu_ofR hr
  have tk : Takes (cxT P w K mg base N_law "law" s_law (ad 43) cdv A outer s H E) (lcT cA E [] vs).W := takes_of rfl rfl rfl rfl
  have pv : PassesOwn (model P w) (cxT P w K mg base N_law "law" s_law (ad 43) cdv A outer s H E).A (cxT P w K mg base N_law "law" s_law (ad 43) cdv A outer s H E).env (cxT P w K mg base N_law "law" s_law (ad 43) cdv A outer s H E).xe := passes_of rfl
  exact (db_cons (ds_for pv rfl (di_seq (de_add (de_sl (de_v 0) do_none (do_some de_int)) (de_sl (de_lst (da_cons de_int da_nil)) (do_some (de_len tx.n_len (da_cons (de_v 0) da_nil))) do_none))) (dg_name 1 nd) (db_cons (ds_set 2 nd (de_call (ok_law_digits tx) (hr.mono (by decide)) tk tx.g_law_digits tx.F_law_digits.kp tx.b_law_digits .nil Dfl.nil (dl_cons (de_v 1) (dl_cons de_int dl_nil))))
  (db_cons (ds_set 3 nd (de_ix (de_lst (da_cons de_int (da_cons de_int (da_cons de_int (da_cons (de_pow de_int de_int) da_nil))))) (de_mod (de_intC tx.n_int (da_cons (de_ix (de_v 2) de_int) da_nil)) de_int)))
  (db_cons (ds_set 4 nd (de_call (ok_law_world tx) (hr.mono (by decide)) tk tx.g_law_world tx.F_law_world.kp tx.b_law_world .nil Dfl.nil (dl_cons (de_v 2) (dl_cons (de_v 3) dl_nil))))
  (db_cons (ds_set 5 nd (de_call (ok_law_fonts tx) (hr.mono (by decide)) tk tx.g_law_fonts tx.F_law_fonts.kp tx.b_law_fonts .nil Dfl.nil (dl_cons (de_v 4) dl_nil)))
  (db_cons (ds_for pv rfl (di_range (da_cons de_int da_nil) tx.n_range) (dg_name 6 nd) (db_cons (ds_set 7 nd (de_call (ok_law_box tx) (hr.mono (by decide)) tk tx.g_law_box tx.F_law_box.kp tx.b_law_box .nil Dfl.nil (dl_cons (de_sl (de_v 2) (do_some (de_add de_int (de_mulI de_int (de_v 6)))) do_none) (dl_cons (de_v 3) (dl_cons (de_v 6) dl_nil)))))
  (db_one (ds_for pv rfl (di_seq (de_add (de_listRg rfl tx.n_list tx.n_range de_int) (de_lst (da_cons de_int da_nil)))) (dg_name 8 nd) (db_one (ds_if (dt_not (dt_of (de_call (ok_law_right tx) (hr.mono (by decide)) tk tx.g_law_right tx.F_law_right.kp tx.b_law_right .nil Dfl.nil (dl_cons (de_v 5) (dl_cons (de_v 4) (dl_cons (de_v 8) (dl_cons (de_v 7) dl_nil))))))) (db_one (ds_ret de_bl)) db_nil))))))
  (db_one (ds_if (dt_cmp (cr_neOwn (c := 6) tx.q_Box (ok_Boxdd_eqdd tx) (hr.mono (by decide)) tx.b_Boxdd_eqdd) (de_call (ok_overlined tx) (hr.mono (by decide)) tk tx.g_overlined tx.F_overlined.kp tx.b_overlined .nil Dfl.nil (dl_cons (de_v 5) (dl_cons de_int (dl_cons (de_make (c := 6) (n := 3) tx.M_Box (ok_Boxdd_initdd tx) (hr.mono (by decide)) tk tx.g_Box bt_Boxdd_initdd vals_ref (dfl_tup0 kt_Boxdd_initdd) (da_cons de_int (da_cons de_int (da_cons de_int da_nil)))) dl_nil)))) (de_call (ok_law_over tx) (hr.mono (by decide)) tk tx.g_law_over tx.F_law_over.kp tx.b_law_over .nil Dfl.nil (dl_cons (de_make (c := 6) (n := 3) tx.M_Box (ok_Boxdd_initdd tx) (hr.mono (by decide)) tk tx.g_Box bt_Boxdd_initdd vals_ref (dfl_tup0 kt_Boxdd_initdd) (da_cons de_int (da_cons de_int (da_cons de_int da_nil)))) (dl_cons (de_ixA hu (de_ix (de_ixA hu (de_v 4) de_str) de_int) de_str) dl_nil)))) (db_one (ds_ret de_bl)) db_nil))))))))
  (db_one (ds_ret de_bl)))
end
end Qk52
end

section
set_option Elab.async false
set_option linter.all false
set_option maxRecDepth 100000
set_option maxHeartbeats 4000000
namespace Qk52
open PySem PySem.Spec PyProof.Rows L2 T
theorem all_mk {l : PySem.W.OpenLaw} {w : World} {K : PySem.W.Frag} {h : Heap} {mg : Str → Option Value} {fa : Addr} (X : K.In h) (G : h.Ns mainGlobals mg) (hfa : mg "law" = some (.ref fa))
    {f0 f1 f2 f3 f4 f5 f6 f7 f8 f9 f10 f11 f12 f13 f14 f15 f16 f17 f18 f19 f20 f21 f22 f23 f24 f25 f26 f27 f28 f29 f30 f31 f32 f33 f34 f35 f36 f37 f38 f39 f40 f41 f42 f43 C2 C5 C6 : Addr}
    {od0 an0 : Option Addr} {sl0 : Array (Option Value)} {oc0 kV0 dc0 pm0 cd0 ct0 : Value}
    {od1 an1 : Option Addr} {sl1 : Array (Option Value)} {oc1 kV1 dc1 pm1 cd1 ct1 : Value}
    {od2 an2 : Option Addr} {sl2 : Array (Option Value)} {oc2 kV2 dc2 pm2 cd2 ct2 : Value}
    {dT2 e2 : Addr} {oT2 : Value} {oD2 : Option Addr} {nT2 : Nat} {sT2 : Array (Option Value)}
    {oE2 : Option Addr} {nE2 : Nat} {sE2 : Array (Option Value)}
    {od3 an3 : Option Addr} {sl3 : Array (Option Value)} {oc3 kV3 dc3 pm3 cd3 ct3 : Value}
    {od4 an4 : Option Addr} {sl4 : Array (Option Value)} {oc4 kV4 dc4 pm4 cd4 ct4 : Value}
    {od5 an5 : Option Addr} {sl5 : Array (Option Value)} {oc5 kV5 dc5 pm5 cd5 ct5 : Value}
    {od6 an6 : Option Addr} {sl6 : Array (Option Value)} {oc6 kV6 dc6 pm6 cd6 ct6 : Value}
    {od7 an7 : Option Addr} {sl7 : Array (Option Value)} {oc7 kV7 dc7 pm7 cd7 ct7 : Value}
    {od8 an8 : Option Addr} {sl8 : Array (Option Value)} {oc8 kV8 dc8 pm8 cd8 ct8 : Value}
    {od9 an9 : Option Addr} {sl9 : Array (Option Value)} {oc9 kV9 dc9 pm9 cd9 ct9 : Value}
    {od10 an10 : Option Addr} {sl10 : Array (Option Value)} {oc10 kV10 dc10 pm10 cd10 ct10 : Value}
    {od11 an11 : Option Addr} {sl11 : Array (Option Value)} {oc11 kV11 dc11 pm11 cd11 ct11 : Value}
    {od12 an12 : Option Addr} {sl12 : Array (Option Value)} {oc12 kV12 dc12 pm12 cd12 ct12 : Value}
    {od13 an13 : Option Addr} {sl13 : Array (Option Value)} {oc13 kV13 dc13 pm13 cd13 ct13 : Value}
    {od14 an14 : Option Addr} {sl14 : Array (Option Value)} {oc14 kV14 dc14 pm14 cd14 ct14 : Value}
    {od15 an15 : Option Addr} {sl15 : Array (Option Value)} {oc15 kV15 dc15 pm15 cd15 ct15 : Value}
    {od16 an16 : Option Addr} {sl16 : Array (Option Value)} {oc16 kV16 dc16 pm16 cd16 ct16 : Value}
    {od17 an17 : Option Addr} {sl17 : Array (Option Value)} {oc17 dc17 pm17 cd17 ct17 : Value}
    {kD17 : Addr}
    {od18 an18 : Option Addr} {sl18 : Array (Option Value)} {oc18 kV18 dc18 pm18 cd18 ct18 : Value}
    {od19 an19 : Option Addr} {sl19 : Array (Option Value)} {oc19 kV19 dc19 pm19 cd19 ct19 : Value}
    {od20 an20 : Option Addr} {sl20 : Array (Option Value)} {oc20 kV20 dc20 pm20 cd20 ct20 : Value}
    {od21 an21 : Option Addr} {sl21 : Array (Option Value)} {oc21 kV21 dc21 pm21 cd21 ct21 : Value}
    {od22 an22 : Option Addr} {sl22 : Array (Option Value)} {oc22 kV22 dc22 pm22 cd22 ct22 : Value}
    {od23 an23 : Option Addr} {sl23 : Array (Option Value)} {oc23 kV23 dc23 pm23 cd23 ct23 : Value}
    {od24 an24 : Option Addr} {sl24 : Array (Option Value)} {oc24 kV24 dc24 pm24 cd24 ct24 : Value}
    {od25 an25 : Option Addr} {sl25 : Array (Option Value)} {oc25 kV25 dc25 pm25 cd25 ct25 : Value}
    {od26 an26 : Option Addr} {sl26 : Array (Option Value)} {oc26 kV26 dc26 pm26 cd26 ct26 : Value}
    {od27 an27 : Option Addr} {sl27 : Array (Option Value)} {oc27 kV27 dc27 pm27 cd27 ct27 : Value}
    {od28 an28 : Option Addr} {sl28 : Array (Option Value)} {oc28 kV28 dc28 pm28 cd28 ct28 : Value}
    {od29 an29 : Option Addr} {sl29 : Array (Option Value)} {oc29 kV29 dc29 pm29 cd29 ct29 : Value}
    {od30 an30 : Option Addr} {sl30 : Array (Option Value)} {oc30 kV30 dc30 pm30 cd30 ct30 : Value}
    {od31 an31 : Option Addr} {sl31 : Array (Option Value)} {oc31 kV31 dc31 pm31 cd31 ct31 : Value}
    {od32 an32 : Option Addr} {sl32 : Array (Option Value)} {oc32 kV32 dc32 pm32 cd32 ct32 : Value}
    {od33 an33 : Option Addr} {sl33 : Array (Option Value)} {oc33 kV33 dc33 pm33 cd33 ct33 : Value}
    {od34 an34 : Option Addr} {sl34 : Array (Option Value)} {oc34 kV34 dc34 pm34 cd34 ct34 : Value}
    {od35 an35 : Option Addr} {sl35 : Array (Option Value)} {oc35 kV35 dc35 pm35 cd35 ct35 : Value}
    {od36 an36 : Option Addr} {sl36 : Array (Option Value)} {oc36 kV36 dc36 pm36 cd36 ct36 : Value}
    {od37 an37 : Option Addr} {sl37 : Array (Option Value)} {oc37 kV37 dc37 pm37 cd37 ct37 : Value}
    {od38 an38 : Option Addr} {sl38 : Array (Option Value)} {oc38 kV38 dc38 pm38 cd38 ct38 : Value}
    {od39 an39 : Option Addr} {sl39 : Array (Option Value)} {oc39 kV39 dc39 pm39 cd39 ct39 : Value}
    {od40 an40 : Option Addr} {sl40 : Array (Option Value)} {oc40 kV40 dc40 pm40 cd40 ct40 : Value}
    {od41 an41 : Option Addr} {sl41 : Array (Option Value)} {oc41 kV41 dc41 pm41 cd41 ct41 : Value}
    {od42 an42 : Option Addr} {sl42 : Array (Option Value)} {oc42 kV42 dc42 pm42 cd42 ct42 : Value}
    {od43 an43 : Option Addr} {sl43 : Array (Option Value)} {oc43 kV43 dc43 pm43 cd43 ct43 : Value}
    {qnBox qqBox : Str} {qNBox : Addr} {qbBox qsBox : List Value} {qhBox qaBox : Bool} {qsnBox : List Str} {qcBox : Option Bool} {qdBox qodBox : Option Addr} {q0Box q1Box q2Box q3Box q5Box : Option Value} {qiBox : String} {qocBox : Value} {qesBox : Array DictEntry} {qepBox : Nat} {qslBox : Array (Option Value)}
    {tkLETTERS : Tok}
    {tkMOST : Tok}
    {tkMOST_FACTOR : Tok}
    {tkMOST_FAMILIES : Tok}
    {tkMOST_GLYPHS : Tok}
    {tkMOST_LETTERS : Tok}
    {kaSETTINGS_1 : Addr} {knSETTINGS_1 : Nat} {ksSETTINGS_1 : Array (Option Value)} {koSETTINGS_1 : Option Addr}
    {ktSETTINGS_2 : Tok}
    {ktSETTINGS_3 : Tok}
    {ktSETTINGS_4 : Tok}
    {ktSETTINGS_5 : Tok}
    {ktSETTINGS_6 : Tok}
    {ktSETTINGS_7 : Tok}
    {ktSETTINGS_8 : Tok}
    {ktSETTINGS_9 : Tok}
    {ktSETTINGS_10 : Tok}
    {ktSETTINGS_11 : Tok}
    {ktSETTINGS_12 : Tok}
    {kaWORDS_13 : Addr} {knWORDS_13 : Nat} {ksWORDS_13 : Array (Option Value)} {koWORDS_13 : Option Addr}
    {ktWORDS_14 : Tok}
    {ktWORDS_15 : Tok}
    {ktWORDS_16 : Tok}
    {ktWORDS_17 : Tok}
    {ktWORDS_18 : Tok}
    {ktWORDS_19 : Tok}
    {ktWORDS_20 : Tok}
    {ktWORDS_21 : Tok}
    {ktWORDS_22 : Tok}
    {ktWORDS_23 : Tok}
    {ktWORDS_24 : Tok}
    {ktWORDS_25 : Tok}
    {ktWORDS_26 : Tok}
    {ktWORDS_27 : Tok}
    {ktWORDS_28 : Tok}
    {ktWORDS_29 : Tok}
    {ktWORDS_30 : Tok}
    {ktWORDS_31 : Tok}
    {ktWORDS_32 : Tok}
    {ktWORDS_33 : Tok}
    {ktWORDS_34 : Tok}
    {ktWORDS_35 : Tok}
    {ktWORDS_36 : Tok}
    (gBox : PySem.W.nsIn K mainGlobals "Box" = some (some (.ref C6)))
    (inBox : PySem.W.findIn K (.ref C6) "__init__" = some (some (.ref f2)))
    (gFonts : PySem.W.nsIn K mainGlobals "Fonts" = some (some (.ref C5)))
    (inFonts : PySem.W.findIn K (.ref C5) "__init__" = some (some (.ref f17)))
    (mt31 : PySem.W.findIn K (.ref C5) "amount" = some (some (.ref f31)))
    (qeBox : PySem.W.findIn K (.ref C6) "__eq__" = some (some (.ref f1)))
    (gInvalidBox : PySem.W.nsIn K mainGlobals "InvalidBox" = some (some (.ref C2)))
    (a0 : PySem.W.nsIn K mainGlobals "sizes_of" = some (some (.ref f0)))
    (l0 : K.lookup f0 = some ⟨oc0, od0, .func (PySem.W.fnOf "sizes_of" "sizes_of" (defArgs s_sizes_of) (defBody s_sizes_of) (defScope s_sizes_of) .none kV0 dc0 pm0 an0 cd0 ct0), sl0⟩)
    (c0 : PySem.W.codeIn K cd0 "sizes_of" = true)
    (k0 : PySem.W.keepIn K (.ref f0) = true)
    (l1 : K.lookup f1 = some ⟨oc1, od1, .func (PySem.W.fnOf "__eq__" "Box.__eq__" (defArgs s_Boxdd_eqdd) (defBody s_Boxdd_eqdd) (defScope s_Boxdd_eqdd) .none kV1 dc1 pm1 an1 cd1 ct1), sl1⟩)
    (c1 : PySem.W.codeIn K cd1 "Box.__eq__" = true)
    (k1 : PySem.W.keepIn K (.ref f1) = true)
    (l2 : K.lookup f2 = some ⟨oc2, od2, .func (PySem.W.fnOf "__init__" "Box.__init__" (defArgs s_Boxdd_initdd) (defBody s_Boxdd_initdd) (defScope s_Boxdd_initdd) (.ref dT2) kV2 dc2 pm2 an2 cd2 ct2), sl2⟩)
    (c2 : PySem.W.codeIn K cd2 "Box.__init__" = true)
    (k2 : PySem.W.keepIn K (.ref f2) = true)
    (d2 : K.lookup dT2 = some ⟨oT2, oD2, .seq #[.ref e2] nT2, sT2⟩)
    (de2 : K.lookup e2 = some ⟨.type "tuple", oE2, .seq #[] nE2, sE2⟩)
    (a3 : PySem.W.nsIn K mainGlobals "_law_box" = some (some (.ref f3)))
    (l3 : K.lookup f3 = some ⟨oc3, od3, .func (PySem.W.fnOf "_law_box" "_law_box" (defArgs s_law_box) (defBody s_law_box) (defScope s_law_box) .none kV3 dc3 pm3 an3 cd3 ct3), sl3⟩)
    (c3 : PySem.W.codeIn K cd3 "_law_box" = true)
    (k3 : PySem.W.keepIn K (.ref f3) = true)
    (a4 : PySem.W.nsIn K mainGlobals "_law_digits" = some (some (.ref f4)))
    (l4 : K.lookup f4 = some ⟨oc4, od4, .func (PySem.W.fnOf "_law_digits" "_law_digits" (defArgs s_law_digits) (defBody s_law_digits) (defScope s_law_digits) .none kV4 dc4 pm4 an4 cd4 ct4), sl4⟩)
    (c4 : PySem.W.codeIn K cd4 "_law_digits" = true)
    (k4 : PySem.W.keepIn K (.ref f4) = true)
    (a5 : PySem.W.nsIn K mainGlobals "is_circle" = some (some (.ref f5)))
    (l5 : K.lookup f5 = some ⟨oc5, od5, .func (PySem.W.fnOf "is_circle" "is_circle" (defArgs s_is_circle) (defBody s_is_circle) (defScope s_is_circle) .none kV5 dc5 pm5 an5 cd5 ct5), sl5⟩)
    (c5 : PySem.W.codeIn K cd5 "is_circle" = true)
    (k5 : PySem.W.keepIn K (.ref f5) = true)
    (a6 : PySem.W.nsIn K mainGlobals "is_integer" = some (some (.ref f6)))
    (l6 : K.lookup f6 = some ⟨oc6, od6, .func (PySem.W.fnOf "is_integer" "is_integer" (defArgs s_is_integer) (defBody s_is_integer) (defScope s_is_integer) .none kV6 dc6 pm6 an6 cd6 ct6), sl6⟩)
    (c6 : PySem.W.codeIn K cd6 "is_integer" = true)
    (k6 : PySem.W.keepIn K (.ref f6) = true)
    (a7 : PySem.W.nsIn K mainGlobals "is_between" = some (some (.ref f7)))
    (l7 : K.lookup f7 = some ⟨oc7, od7, .func (PySem.W.fnOf "is_between" "is_between" (defArgs s_is_between) (defBody s_is_between) (defScope s_is_between) .none kV7 dc7 pm7 an7 cd7 ct7), sl7⟩)
    (c7 : PySem.W.codeIn K cd7 "is_between" = true)
    (k7 : PySem.W.keepIn K (.ref f7) = true)
    (a8 : PySem.W.nsIn K mainGlobals "is_name" = some (some (.ref f8)))
    (l8 : K.lookup f8 = some ⟨oc8, od8, .func (PySem.W.fnOf "is_name" "is_name" (defArgs s_is_name) (defBody s_is_name) (defScope s_is_name) .none kV8 dc8 pm8 an8 cd8 ct8), sl8⟩)
    (c8 : PySem.W.codeIn K cd8 "is_name" = true)
    (k8 : PySem.W.keepIn K (.ref f8) = true)
    (a9 : PySem.W.nsIn K mainGlobals "is_tuple" = some (some (.ref f9)))
    (l9 : K.lookup f9 = some ⟨oc9, od9, .func (PySem.W.fnOf "is_tuple" "is_tuple" (defArgs s_is_tuple) (defBody s_is_tuple) (defScope s_is_tuple) .none kV9 dc9 pm9 an9 cd9 ct9), sl9⟩)
    (c9 : PySem.W.codeIn K cd9 "is_tuple" = true)
    (k9 : PySem.W.keepIn K (.ref f9) = true)
    (a10 : PySem.W.nsIn K mainGlobals "is_glyph" = some (some (.ref f10)))
    (l10 : K.lookup f10 = some ⟨oc10, od10, .func (PySem.W.fnOf "is_glyph" "is_glyph" (defArgs s_is_glyph) (defBody s_is_glyph) (defScope s_is_glyph) .none kV10 dc10 pm10 an10 cd10 ct10), sl10⟩)
    (c10 : PySem.W.codeIn K cd10 "is_glyph" = true)
    (k10 : PySem.W.keepIn K (.ref f10) = true)
    (a11 : PySem.W.nsIn K mainGlobals "is_pair" = some (some (.ref f11)))
    (l11 : K.lookup f11 = some ⟨oc11, od11, .func (PySem.W.fnOf "is_pair" "is_pair" (defArgs s_is_pair) (defBody s_is_pair) (defScope s_is_pair) .none kV11 dc11 pm11 an11 cd11 ct11), sl11⟩)
    (c11 : PySem.W.codeIn K cd11 "is_pair" = true)
    (k11 : PySem.W.keepIn K (.ref f11) = true)
    (a12 : PySem.W.nsIn K mainGlobals "check_face" = some (some (.ref f12)))
    (l12 : K.lookup f12 = some ⟨oc12, od12, .func (PySem.W.fnOf "check_face" "check_face" (defArgs s_check_face) (defBody s_check_face) (defScope s_check_face) .none kV12 dc12 pm12 an12 cd12 ct12), sl12⟩)
    (c12 : PySem.W.codeIn K cd12 "check_face" = true)
    (k12 : PySem.W.keepIn K (.ref f12) = true)
    (a13 : PySem.W.nsIn K mainGlobals "check_families" = some (some (.ref f13)))
    (l13 : K.lookup f13 = some ⟨oc13, od13, .func (PySem.W.fnOf "check_families" "check_families" (defArgs s_check_families) (defBody s_check_families) (defScope s_check_families) .none kV13 dc13 pm13 an13 cd13 ct13), sl13⟩)
    (c13 : PySem.W.codeIn K cd13 "check_families" = true)
    (k13 : PySem.W.keepIn K (.ref f13) = true)
    (a14 : PySem.W.nsIn K mainGlobals "most_of" = some (some (.ref f14)))
    (l14 : K.lookup f14 = some ⟨oc14, od14, .func (PySem.W.fnOf "most_of" "most_of" (defArgs s_most_of) (defBody s_most_of) (defScope s_most_of) .none kV14 dc14 pm14 an14 cd14 ct14), sl14⟩)
    (c14 : PySem.W.codeIn K cd14 "most_of" = true)
    (k14 : PySem.W.keepIn K (.ref f14) = true)
    (a15 : PySem.W.nsIn K mainGlobals "check_words" = some (some (.ref f15)))
    (l15 : K.lookup f15 = some ⟨oc15, od15, .func (PySem.W.fnOf "check_words" "check_words" (defArgs s_check_words) (defBody s_check_words) (defScope s_check_words) .none kV15 dc15 pm15 an15 cd15 ct15), sl15⟩)
    (c15 : PySem.W.codeIn K cd15 "check_words" = true)
    (k15 : PySem.W.keepIn K (.ref f15) = true)
    (a16 : PySem.W.nsIn K mainGlobals "copied_face" = some (some (.ref f16)))
    (l16 : K.lookup f16 = some ⟨oc16, od16, .func (PySem.W.fnOf "copied_face" "copied_face" (defArgs s_copied_face) (defBody s_copied_face) (defScope s_copied_face) .none kV16 dc16 pm16 an16 cd16 ct16), sl16⟩)
    (c16 : PySem.W.codeIn K cd16 "copied_face" = true)
    (k16 : PySem.W.keepIn K (.ref f16) = true)
    (l17 : K.lookup f17 = some ⟨oc17, od17, .func (PySem.W.fnOf "__init__" "Fonts.__init__" (defArgs s_Fontsdd_initdd) (defBody s_Fontsdd_initdd) (defScope s_Fontsdd_initdd) .none (.ref kD17) dc17 pm17 an17 cd17 ct17), sl17⟩)
    (c17 : PySem.W.codeIn K cd17 "Fonts.__init__" = true)
    (k17 : PySem.W.keepIn K (.ref f17) = true)
    (kd17 : PySem.W.nsIn K kD17 "skew" = some (some Value.none))
    (a18 : PySem.W.nsIn K mainGlobals "_law_fonts" = some (some (.ref f18)))
    (l18 : K.lookup f18 = some ⟨oc18, od18, .func (PySem.W.fnOf "_law_fonts" "_law_fonts" (defArgs s_law_fonts) (defBody s_law_fonts) (defScope s_law_fonts) .none kV18 dc18 pm18 an18 cd18 ct18), sl18⟩)
    (c18 : PySem.W.codeIn K cd18 "_law_fonts" = true)
    (k18 : PySem.W.keepIn K (.ref f18) = true)
    (a19 : PySem.W.nsIn K mainGlobals "_law_over" = some (some (.ref f19)))
    (l19 : K.lookup f19 = some ⟨oc19, od19, .func (PySem.W.fnOf "_law_over" "_law_over" (defArgs s_law_over) (defBody s_law_over) (defScope s_law_over) .none kV19 dc19 pm19 an19 cd19 ct19), sl19⟩)
    (c19 : PySem.W.codeIn K cd19 "_law_over" = true)
    (k19 : PySem.W.keepIn K (.ref f19) = true)
    (a20 : PySem.W.nsIn K mainGlobals "_law_size" = some (some (.ref f20)))
    (l20 : K.lookup f20 = some ⟨oc20, od20, .func (PySem.W.fnOf "_law_size" "_law_size" (defArgs s_law_size) (defBody s_law_size) (defScope s_law_size) .none kV20 dc20 pm20 an20 cd20 ct20), sl20⟩)
    (c20 : PySem.W.codeIn K cd20 "_law_size" = true)
    (k20 : PySem.W.keepIn K (.ref f20) = true)
    (a21 : PySem.W.nsIn K mainGlobals "_law_under" = some (some (.ref f21)))
    (l21 : K.lookup f21 = some ⟨oc21, od21, .func (PySem.W.fnOf "_law_under" "_law_under" (defArgs s_law_under) (defBody s_law_under) (defScope s_law_under) .none kV21 dc21 pm21 an21 cd21 ct21), sl21⟩)
    (c21 : PySem.W.codeIn K cd21 "_law_under" = true)
    (k21 : PySem.W.keepIn K (.ref f21) = true)
    (a22 : PySem.W.nsIn K mainGlobals "check_fonts" = some (some (.ref f22)))
    (l22 : K.lookup f22 = some ⟨oc22, od22, .func (PySem.W.fnOf "check_fonts" "check_fonts" (defArgs s_check_fonts) (defBody s_check_fonts) (defScope s_check_fonts) .none kV22 dc22 pm22 an22 cd22 ct22), sl22⟩)
    (c22 : PySem.W.codeIn K cd22 "check_fonts" = true)
    (k22 : PySem.W.keepIn K (.ref f22) = true)
    (a23 : PySem.W.nsIn K mainGlobals "is_path" = some (some (.ref f23)))
    (l23 : K.lookup f23 = some ⟨oc23, od23, .func (PySem.W.fnOf "is_path" "is_path" (defArgs s_is_path) (defBody s_is_path) (defScope s_is_path) .none kV23 dc23 pm23 an23 cd23 ct23), sl23⟩)
    (c23 : PySem.W.codeIn K cd23 "is_path" = true)
    (k23 : PySem.W.keepIn K (.ref f23) = true)
    (a24 : PySem.W.nsIn K mainGlobals "is_whole" = some (some (.ref f24)))
    (l24 : K.lookup f24 = some ⟨oc24, od24, .func (PySem.W.fnOf "is_whole" "is_whole" (defArgs s_is_whole) (defBody s_is_whole) (defScope s_is_whole) .none kV24 dc24 pm24 an24 cd24 ct24), sl24⟩)
    (c24 : PySem.W.codeIn K cd24 "is_whole" = true)
    (k24 : PySem.W.keepIn K (.ref f24) = true)
    (a25 : PySem.W.nsIn K mainGlobals "is_mark" = some (some (.ref f25)))
    (l25 : K.lookup f25 = some ⟨oc25, od25, .func (PySem.W.fnOf "is_mark" "is_mark" (defArgs s_is_mark) (defBody s_is_mark) (defScope s_is_mark) .none kV25 dc25 pm25 an25 cd25 ct25), sl25⟩)
    (c25 : PySem.W.codeIn K cd25 "is_mark" = true)
    (k25 : PySem.W.keepIn K (.ref f25) = true)
    (a26 : PySem.W.nsIn K mainGlobals "is_placed" = some (some (.ref f26)))
    (l26 : K.lookup f26 = some ⟨oc26, od26, .func (PySem.W.fnOf "is_placed" "is_placed" (defArgs s_is_placed) (defBody s_is_placed) (defScope s_is_placed) .none kV26 dc26 pm26 an26 cd26 ct26), sl26⟩)
    (c26 : PySem.W.codeIn K cd26 "is_placed" = true)
    (k26 : PySem.W.keepIn K (.ref f26) = true)
    (a27 : PySem.W.nsIn K mainGlobals "check_box" = some (some (.ref f27)))
    (l27 : K.lookup f27 = some ⟨oc27, od27, .func (PySem.W.fnOf "check_box" "check_box" (defArgs s_check_box) (defBody s_check_box) (defScope s_check_box) .none kV27 dc27 pm27 an27 cd27 ct27), sl27⟩)
    (c27 : PySem.W.codeIn K cd27 "check_box" = true)
    (k27 : PySem.W.keepIn K (.ref f27) = true)
    (a28 : PySem.W.nsIn K mainGlobals "check_part" = some (some (.ref f28)))
    (l28 : K.lookup f28 = some ⟨oc28, od28, .func (PySem.W.fnOf "check_part" "check_part" (defArgs s_check_part) (defBody s_check_part) (defScope s_check_part) .none kV28 dc28 pm28 an28 cd28 ct28), sl28⟩)
    (c28 : PySem.W.codeIn K cd28 "check_part" = true)
    (k28 : PySem.W.keepIn K (.ref f28) = true)
    (a29 : PySem.W.nsIn K mainGlobals "check_style" = some (some (.ref f29)))
    (l29 : K.lookup f29 = some ⟨oc29, od29, .func (PySem.W.fnOf "check_style" "check_style" (defArgs s_check_style) (defBody s_check_style) (defScope s_check_style) .none kV29 dc29 pm29 an29 cd29 ct29), sl29⟩)
    (c29 : PySem.W.codeIn K cd29 "check_style" = true)
    (k29 : PySem.W.keepIn K (.ref f29) = true)
    (a30 : PySem.W.nsIn K mainGlobals "check_inner" = some (some (.ref f30)))
    (l30 : K.lookup f30 = some ⟨oc30, od30, .func (PySem.W.fnOf "check_inner" "check_inner" (defArgs s_check_inner) (defBody s_check_inner) (defScope s_check_inner) .none kV30 dc30 pm30 an30 cd30 ct30), sl30⟩)
    (c30 : PySem.W.codeIn K cd30 "check_inner" = true)
    (k30 : PySem.W.keepIn K (.ref f30) = true)
    (l31 : K.lookup f31 = some ⟨oc31, od31, .func (PySem.W.fnOf "amount" "Fonts.amount" (defArgs s_Fonts_amount) (defBody s_Fonts_amount) (defScope s_Fonts_amount) .none kV31 dc31 pm31 an31 cd31 ct31), sl31⟩)
    (c31 : PySem.W.codeIn K cd31 "Fonts.amount" = true)
    (k31 : PySem.W.keepIn K (.ref f31) = true)
    (a32 : PySem.W.nsIn K mainGlobals "rule_box" = some (some (.ref f32)))
    (l32 : K.lookup f32 = some ⟨oc32, od32, .func (PySem.W.fnOf "rule_box" "rule_box" (defArgs s_rule_box) (defBody s_rule_box) (defScope s_rule_box) .none kV32 dc32 pm32 an32 cd32 ct32), sl32⟩)
    (c32 : PySem.W.codeIn K cd32 "rule_box" = true)
    (k32 : PySem.W.keepIn K (.ref f32) = true)
    (a33 : PySem.W.nsIn K mainGlobals "size_of" = some (some (.ref f33)))
    (l33 : K.lookup f33 = some ⟨oc33, od33, .func (PySem.W.fnOf "size_of" "size_of" (defArgs s_size_of) (defBody s_size_of) (defScope s_size_of) .none kV33 dc33 pm33 an33 cd33 ct33), sl33⟩)
    (c33 : PySem.W.codeIn K cd33 "size_of" = true)
    (k33 : PySem.W.keepIn K (.ref f33) = true)
    (a34 : PySem.W.nsIn K mainGlobals "marks_moved" = some (some (.ref f34)))
    (l34 : K.lookup f34 = some ⟨oc34, od34, .func (PySem.W.fnOf "marks_moved" "marks_moved" (defArgs s_marks_moved) (defBody s_marks_moved) (defScope s_marks_moved) .none kV34 dc34 pm34 an34 cd34 ct34), sl34⟩)
    (c34 : PySem.W.codeIn K cd34 "marks_moved" = true)
    (k34 : PySem.W.keepIn K (.ref f34) = true)
    (a35 : PySem.W.nsIn K mainGlobals "together_box" = some (some (.ref f35)))
    (l35 : K.lookup f35 = some ⟨oc35, od35, .func (PySem.W.fnOf "together_box" "together_box" (defArgs s_together_box) (defBody s_together_box) (defScope s_together_box) .none kV35 dc35 pm35 an35 cd35 ct35), sl35⟩)
    (c35 : PySem.W.codeIn K cd35 "together_box" = true)
    (k35 : PySem.W.keepIn K (.ref f35) = true)
    (a36 : PySem.W.nsIn K mainGlobals "over_box" = some (some (.ref f36)))
    (l36 : K.lookup f36 = some ⟨oc36, od36, .func (PySem.W.fnOf "over_box" "over_box" (defArgs s_over_box) (defBody s_over_box) (defScope s_over_box) .none kV36 dc36 pm36 an36 cd36 ct36), sl36⟩)
    (c36 : PySem.W.codeIn K cd36 "over_box" = true)
    (k36 : PySem.W.keepIn K (.ref f36) = true)
    (a37 : PySem.W.nsIn K mainGlobals "overlined" = some (some (.ref f37)))
    (l37 : K.lookup f37 = some ⟨oc37, od37, .func (PySem.W.fnOf "overlined" "overlined" (defArgs s_overlined) (defBody s_overlined) (defScope s_overlined) .none kV37 dc37 pm37 an37 cd37 ct37), sl37⟩)
    (c37 : PySem.W.codeIn K cd37 "overlined" = true)
    (k37 : PySem.W.keepIn K (.ref f37) = true)
    (a38 : PySem.W.nsIn K mainGlobals "under_box" = some (some (.ref f38)))
    (l38 : K.lookup f38 = some ⟨oc38, od38, .func (PySem.W.fnOf "under_box" "under_box" (defArgs s_under_box) (defBody s_under_box) (defScope s_under_box) .none kV38 dc38 pm38 an38 cd38 ct38), sl38⟩)
    (c38 : PySem.W.codeIn K cd38 "under_box" = true)
    (k38 : PySem.W.keepIn K (.ref f38) = true)
    (a39 : PySem.W.nsIn K mainGlobals "underlined" = some (some (.ref f39)))
    (l39 : K.lookup f39 = some ⟨oc39, od39, .func (PySem.W.fnOf "underlined" "underlined" (defArgs s_underlined) (defBody s_underlined) (defScope s_underlined) .none kV39 dc39 pm39 an39 cd39 ct39), sl39⟩)
    (c39 : PySem.W.codeIn K cd39 "underlined" = true)
    (k39 : PySem.W.keepIn K (.ref f39) = true)
    (a40 : PySem.W.nsIn K mainGlobals "_law_right" = some (some (.ref f40)))
    (l40 : K.lookup f40 = some ⟨oc40, od40, .func (PySem.W.fnOf "_law_right" "_law_right" (defArgs s_law_right) (defBody s_law_right) (defScope s_law_right) .none kV40 dc40 pm40 an40 cd40 ct40), sl40⟩)
    (c40 : PySem.W.codeIn K cd40 "_law_right" = true)
    (k40 : PySem.W.keepIn K (.ref f40) = true)
    (a41 : PySem.W.nsIn K mainGlobals "_law_words" = some (some (.ref f41)))
    (l41 : K.lookup f41 = some ⟨oc41, od41, .func (PySem.W.fnOf "_law_words" "_law_words" (defArgs s_law_words) (defBody s_law_words) (defScope s_law_words) .none kV41 dc41 pm41 an41 cd41 ct41), sl41⟩)
    (c41 : PySem.W.codeIn K cd41 "_law_words" = true)
    (k41 : PySem.W.keepIn K (.ref f41) = true)
    (a42 : PySem.W.nsIn K mainGlobals "_law_world" = some (some (.ref f42)))
    (l42 : K.lookup f42 = some ⟨oc42, od42, .func (PySem.W.fnOf "_law_world" "_law_world" (defArgs s_law_world) (defBody s_law_world) (defScope s_law_world) .none kV42 dc42 pm42 an42 cd42 ct42), sl42⟩)
    (c42 : PySem.W.codeIn K cd42 "_law_world" = true)
    (k42 : PySem.W.keepIn K (.ref f42) = true)
    (a43 : PySem.W.nsIn K mainGlobals "law" = some (some (.ref f43)))
    (l43 : K.lookup f43 = some ⟨oc43, od43, .func (PySem.W.fnOf "law" "law" (defArgs s_law) (defBody s_law) (defScope s_law) .none kV43 dc43 pm43 an43 cd43 ct43), sl43⟩)
    (c43 : PySem.W.codeIn K cd43 "law" = true)
    (k43 : PySem.W.keepIn K (.ref f43) = true)
    (pgBox : PySem.W.plainGet K C6 Str.empty = true)
    (hdBox : PySem.W.hasDictIn K C6 = true)
    (poBox : PySem.W.plainOver K C6 = true)
    (saBox : PySem.W.findIn K (.ref C6) "__setattr__" = some (some (.builtin "object.__setattr__")))
    (mkBox : PySem.W.makesIn K C6 = true)
    (ifBox : PySem.W.isFn K (.ref f2) = true)
    (ckBox : PySem.W.keepIn K (.ref C6) = true)
    (pgFonts : PySem.W.plainGet K C5 Str.empty = true)
    (hdFonts : PySem.W.hasDictIn K C5 = true)
    (poFonts : PySem.W.plainOver K C5 = true)
    (saFonts : PySem.W.findIn K (.ref C5) "__setattr__" = some (some (.builtin "object.__setattr__")))
    (mkFonts : PySem.W.makesIn K C5 = true)
    (ifFonts : PySem.W.isFn K (.ref f17) = true)
    (ckFonts : PySem.W.keepIn K (.ref C5) = true)
    (mf31 : PySem.W.isFn K (.ref f31) = true)
    (qfBox : PySem.W.isFn K (.ref f1) = true)
    (qlBox : K.lookup C6 = some (excClassObj qnBox qqBox C6 qNBox qbBox [.type "object"] qhBox qsnBox qsBox qaBox qcBox qdBox q0Box q1Box q2Box q3Box q5Box qiBox))
    (qmBox : K.lookup qNBox = some ⟨qocBox, qodBox, .dict qesBox qepBox, qslBox⟩)
    (qkBox : strKs qesBox = true)
    (qvBox : nsFind qesBox "__eq__" = some (.ref f1))
    (qwBox : nsFind qesBox "__ne__" = none)
    (nadepthBox : PySem.W.findIn K (.ref C6) "depth" = some none)
    (nafamily_rowsFonts : PySem.W.findIn K (.ref C5) "family_rows" = some none)
    (naheightBox : PySem.W.findIn K (.ref C6) "height" = some none)
    (namarksBox : PySem.W.findIn K (.ref C6) "marks" = some none)
    (nanumber_rowsFonts : PySem.W.findIn K (.ref C5) "number_rows" = some none)
    (nasetting_rowsFonts : PySem.W.findIn K (.ref C5) "setting_rows" = some none)
    (naskew_nameFonts : PySem.W.findIn K (.ref C5) "skew_name" = some none)
    (nawidthBox : PySem.W.findIn K (.ref C6) "width" = some none)
    (zall : PySem.W.nsIn K mainGlobals "all" = some none)
    (zbool : PySem.W.nsIn K mainGlobals "bool" = some none)
    (zdict : PySem.W.nsIn K mainGlobals "dict" = some none)
    (zenumerate : PySem.W.nsIn K mainGlobals "enumerate" = some none)
    (zint : PySem.W.nsIn K mainGlobals "int" = some none)
    (zisinstance : PySem.W.nsIn K mainGlobals "isinstance" = some none)
    (zlen : PySem.W.nsIn K mainGlobals "len" = some none)
    (zlist : PySem.W.nsIn K mainGlobals "list" = some none)
    (zmax : PySem.W.nsIn K mainGlobals "max" = some none)
    (zrange : PySem.W.nsIn K mainGlobals "range" = some none)
    (zsorted : PySem.W.nsIn K mainGlobals "sorted" = some none)
    (zstr : PySem.W.nsIn K mainGlobals "str" = some none)
    (ztuple : PySem.W.nsIn K mainGlobals "tuple" = some none)
    (zzip : PySem.W.nsIn K mainGlobals "zip" = some none)
    (gcLETTERS : PySem.W.nsIn K mainGlobals "LETTERS" = some (some (.str "abcdefghijklmnopqrstuvwxyz" tkLETTERS)))
    (gcMOST : PySem.W.nsIn K mainGlobals "MOST" = some (some (.int (1000000000000000000000000000000000000000000000000000000000000) tkMOST)))
    (gcMOST_FACTOR : PySem.W.nsIn K mainGlobals "MOST_FACTOR" = some (some (.int (1000) tkMOST_FACTOR)))
    (gcMOST_FAMILIES : PySem.W.nsIn K mainGlobals "MOST_FAMILIES" = some (some (.int (4) tkMOST_FAMILIES)))
    (gcMOST_GLYPHS : PySem.W.nsIn K mainGlobals "MOST_GLYPHS" = some (some (.int (200) tkMOST_GLYPHS)))
    (gcMOST_LETTERS : PySem.W.nsIn K mainGlobals "MOST_LETTERS" = some (some (.int (8) tkMOST_LETTERS)))
    (gcSETTINGS : PySem.W.nsIn K mainGlobals "SETTINGS" = some (some (.ref kaSETTINGS_1)))
    (klSETTINGS_1 : K.lookup kaSETTINGS_1 = some ⟨.type "tuple", koSETTINGS_1, .seq #[(.str "scriptspace" ktSETTINGS_2), (.str "factor" ktSETTINGS_3), (.str "short" ktSETTINGS_4), (.str "empty" ktSETTINGS_5), (.str "thin" ktSETTINGS_6), (.str "medium" ktSETTINGS_7), (.str "thick" ktSETTINGS_8), (.str "baseline" ktSETTINGS_9), (.str "apart" ktSETTINGS_10), (.str "column" ktSETTINGS_11), (.str "indent" ktSETTINGS_12)] knSETTINGS_1, ksSETTINGS_1⟩)
    (gcWORDS : PySem.W.nsIn K mainGlobals "WORDS" = some (some (.ref kaWORDS_13)))
    (klWORDS_13 : K.lookup kaWORDS_13 = some ⟨.type "tuple", koWORDS_13, .seq #[(.str "xheight" ktWORDS_14), (.str "quad" ktWORDS_15), (.str "up1" ktWORDS_16), (.str "up2" ktWORDS_17), (.str "up3" ktWORDS_18), (.str "down1" ktWORDS_19), (.str "down2" ktWORDS_20), (.str "sup1" ktWORDS_21), (.str "sup2" ktWORDS_22), (.str "sup3" ktWORDS_23), (.str "sub1" ktWORDS_24), (.str "sub2" ktWORDS_25), (.str "supdrop" ktWORDS_26), (.str "subdrop" ktWORDS_27), (.str "delim1" ktWORDS_28), (.str "delim2" ktWORDS_29), (.str "axis" ktWORDS_30), (.str "rule" ktWORDS_31), (.str "gap1" ktWORDS_32), (.str "gap2" ktWORDS_33), (.str "gap3" ktWORDS_34), (.str "gap4" ktWORDS_35), (.str "gap5" ktWORDS_36)] knWORDS_13, ksWORDS_13⟩)
    (xhn : PySem.W.specialIn K (.builtin "object.__class__") "__get__" = some (some (.builtin "getset_descriptor.__get__")))
    (xtk : PySem.W.takesIn K (.builtin "object.__class__") = some true)
    (xcBox : PySem.W.findIn K (.ref C6) "__class__" = some (some (.builtin "object.__class__")))
    (xmBox : PySem.W.mroIn K C6 (.type "object") = some true)
    (xtBox : PySem.W.typeIn K (.ref C6) = some (.type "type"))
    (xoBoxint : PySem.W.mroIn K C6 (.type "int") = some false)
    (xoBoxbool : PySem.W.mroIn K C6 (.type "bool") = some false)
    (xoBoxstr : PySem.W.mroIn K C6 (.type "str") = some false)
    (xoBoxlist : PySem.W.mroIn K C6 (.type "list") = some false)
    (xoBoxtuple : PySem.W.mroIn K C6 (.type "tuple") = some false)
    (xoBoxdict : PySem.W.mroIn K C6 (.type "dict") = some false)
    (xxBoxFonts : PySem.W.mroIn K C6 (.ref C5) = some false)
    (xnBoxFonts : (C6 == C5) = false)
    (xcFonts : PySem.W.findIn K (.ref C5) "__class__" = some (some (.builtin "object.__class__")))
    (xmFonts : PySem.W.mroIn K C5 (.type "object") = some true)
    (xtFonts : PySem.W.typeIn K (.ref C5) = some (.type "type"))
    (xoFontsint : PySem.W.mroIn K C5 (.type "int") = some false)
    (xoFontsbool : PySem.W.mroIn K C5 (.type "bool") = some false)
    (xoFontsstr : PySem.W.mroIn K C5 (.type "str") = some false)
    (xoFontslist : PySem.W.mroIn K C5 (.type "list") = some false)
    (xoFontstuple : PySem.W.mroIn K C5 (.type "tuple") = some false)
    (xoFontsdict : PySem.W.mroIn K C5 (.type "dict") = some false)
    (xxFontsBox : PySem.W.mroIn K C5 (.ref C6) = some false)
    (xnFontsBox : (C5 == C6) = false)
    : ∃ (fd : FuncData) (cA : Cid → Addr), (∀ (s : Shared) (u : Value), BindsTo s fd { pos := [u] } [("script", u)]) ∧ ∀ base : Heap, K.In base → base.Ns mainGlobals mg → FnT l.prog w K mg base cA 13 fa fd ["script"] [] F_law := by
  have e : f43 = fa := by
    have e := hfa.symm.trans (PySem.W.mg_of X G a43)
    cases e
    rfl
  subst e
  have G0 := fun_mk (x := "sizes_of") (qual := "sizes_of") (st := s_sizes_of) l0 c0 k0
  have F0 := FunG.of G0
  have b0 := G0.binds (ps := ["box"]) fun _ _ _ _ _ _ us hl => match us, hl with | [_], _ => rfl
  have G1 := fun_mk (x := "__eq__") (qual := "Box.__eq__") (st := s_Boxdd_eqdd) l1 c1 k1
  have F1 := FunG.of G1
  have b1 := G1.binds (ps := ["self", "other"]) fun _ _ _ _ _ _ us hl => match us, hl with | [_, _], _ => rfl
  have FD2 : FunD K "__init__" "Box.__init__" (defArgs s_Boxdd_initdd) (defBody s_Boxdd_initdd) (defScope s_Boxdd_initdd) [.ref e2] [] f2 (PySem.W.fnOf "__init__" "Box.__init__" (defArgs s_Boxdd_initdd) (defBody s_Boxdd_initdd) (defScope s_Boxdd_initdd) (.ref dT2) kV2 dc2 pm2 an2 cd2 ct2) := ⟨⟨oc2, od2, _, kV2, dc2, pm2, an2, cd2, ct2, sl2, rfl, l2, c2, .inr ⟨by simp, dT2, _, [.ref e2], nT2, rfl, d2, rfl, .cons rfl .nil⟩, .inl rfl⟩, k2⟩
  have F2 : FunG K "__init__" "Box.__init__" s_Boxdd_initdd f2 (PySem.W.fnOf "__init__" "Box.__init__" (defArgs s_Boxdd_initdd) (defBody s_Boxdd_initdd) (defScope s_Boxdd_initdd) (.ref dT2) kV2 dc2 pm2 an2 cd2 ct2) := ⟨⟨oc2, od2, _, kV2, dc2, pm2, an2, cd2, ct2, sl2, rfl, l2, c2⟩, k2⟩
  have b2 : L2.Binds K (PySem.W.fnOf "__init__" "Box.__init__" (defArgs s_Boxdd_initdd) (defBody s_Boxdd_initdd) (defScope s_Boxdd_initdd) (.ref dT2) kV2 dc2 pm2 an2 cd2 ct2) ["self", "width", "height", "depth", "marks"] [] := by
    obtain ⟨ds, v, z⟩ := FD2.binds1 (ps := ["self", "width", "height", "depth", "marks"]) 5 1 (by simp) (by rfl) (fun T kV doc pm an cdv ct us its hu hi => match us, its, hu, hi with | [_, _, _, _, _], [_], _, _ => ⟨_, rfl, rfl⟩)
    match ds, v with
    | [], _ => exact z
  have bt2 : ∃ e, KTup K e [] ∧ L2.Binds K (PySem.W.fnOf "__init__" "Box.__init__" (defArgs s_Boxdd_initdd) (defBody s_Boxdd_initdd) (defScope s_Boxdd_initdd) (.ref dT2) kV2 dc2 pm2 an2 cd2 ct2) ["self", "width", "height", "depth", "marks"] [Value.ref e] := by
    obtain ⟨ds, v, z⟩ := FD2.binds1 (ps := ["self", "width", "height", "depth", "marks"]) 4 0 (by simp) (by rfl) (fun T kV doc pm an cdv ct us its hu hi => match us, its, hu, hi with | [_, _, _, _], [_], _, _ => ⟨_, rfl, rfl⟩)
    refine ⟨e2, ⟨_, #[], nE2, de2, rfl, rfl, Nat.zero_le _, .nil⟩, ?_⟩
    cases v with
    | cons a r => cases r; cases a; exact z
  have G3 := fun_mk (x := "_law_box") (qual := "_law_box") (st := s_law_box) l3 c3 k3
  have F3 := FunG.of G3
  have b3 := G3.binds (ps := ["digits", "grow", "at"]) fun _ _ _ _ _ _ us hl => match us, hl with | [_, _, _], _ => rfl
  have G4 := fun_mk (x := "_law_digits") (qual := "_law_digits") (st := s_law_digits) l4 c4 k4
  have F4 := FunG.of G4
  have b4 := G4.binds (ps := ["cell", "many"]) fun _ _ _ _ _ _ us hl => match us, hl with | [_, _], _ => rfl
  have G5 := fun_mk (x := "is_circle") (qual := "is_circle") (st := s_is_circle) l5 c5 k5
  have F5 := FunG.of G5
  have b5 := G5.binds (ps := ["face", "name"]) fun _ _ _ _ _ _ us hl => match us, hl with | [_, _], _ => rfl
  have G6 := fun_mk (x := "is_integer") (qual := "is_integer") (st := s_is_integer) l6 c6 k6
  have F6 := FunG.of G6
  have b6 := G6.binds (ps := ["thing"]) fun _ _ _ _ _ _ us hl => match us, hl with | [_], _ => rfl
  have G7 := fun_mk (x := "is_between") (qual := "is_between") (st := s_is_between) l7 c7 k7
  have F7 := FunG.of G7
  have b7 := G7.binds (ps := ["thing", "least", "most"]) fun _ _ _ _ _ _ us hl => match us, hl with | [_, _, _], _ => rfl
  have G8 := fun_mk (x := "is_name") (qual := "is_name") (st := s_is_name) l8 c8 k8
  have F8 := FunG.of G8
  have b8 := G8.binds (ps := ["thing"]) fun _ _ _ _ _ _ us hl => match us, hl with | [_], _ => rfl
  have G9 := fun_mk (x := "is_tuple") (qual := "is_tuple") (st := s_is_tuple) l9 c9 k9
  have F9 := FunG.of G9
  have b9 := G9.binds (ps := ["thing", "many"]) fun _ _ _ _ _ _ us hl => match us, hl with | [_, _], _ => rfl
  have G10 := fun_mk (x := "is_glyph") (qual := "is_glyph") (st := s_is_glyph) l10 c10 k10
  have F10 := FunG.of G10
  have b10 := G10.binds (ps := ["face", "glyph"]) fun _ _ _ _ _ _ us hl => match us, hl with | [_, _], _ => rfl
  have G11 := fun_mk (x := "is_pair") (qual := "is_pair") (st := s_is_pair) l11 c11 k11
  have F11 := FunG.of G11
  have b11 := G11.binds (ps := ["face", "pair", "deed"]) fun _ _ _ _ _ _ us hl => match us, hl with | [_, _, _], _ => rfl
  have G12 := fun_mk (x := "check_face") (qual := "check_face") (st := s_check_face) l12 c12 k12
  have F12 := FunG.of G12
  have b12 := G12.binds (ps := ["face", "place"]) fun _ _ _ _ _ _ us hl => match us, hl with | [_, _], _ => rfl
  have G13 := fun_mk (x := "check_families") (qual := "check_families") (st := s_check_families) l13 c13 k13
  have F13 := FunG.of G13
  have b13 := G13.binds (ps := ["families"]) fun _ _ _ _ _ _ us hl => match us, hl with | [_], _ => rfl
  have G14 := fun_mk (x := "most_of") (qual := "most_of") (st := s_most_of) l14 c14 k14
  have F14 := FunG.of G14
  have b14 := G14.binds (ps := ["word"]) fun _ _ _ _ _ _ us hl => match us, hl with | [_], _ => rfl
  have G15 := fun_mk (x := "check_words") (qual := "check_words") (st := s_check_words) l15 c15 k15
  have F15 := FunG.of G15
  have b15 := G15.binds (ps := ["values", "words", "part", "place"]) fun _ _ _ _ _ _ us hl => match us, hl with | [_, _, _, _], _ => rfl
  have G16 := fun_mk (x := "copied_face") (qual := "copied_face") (st := s_copied_face) l16 c16 k16
  have F16 := FunG.of G16
  have b16 := G16.binds (ps := ["face"]) fun _ _ _ _ _ _ us hl => match us, hl with | [_], _ => rfl
  have FD17 : FunD K "__init__" "Fonts.__init__" (defArgs s_Fontsdd_initdd) (defBody s_Fontsdd_initdd) (defScope s_Fontsdd_initdd) [] [("skew", V.non)] f17 (PySem.W.fnOf "__init__" "Fonts.__init__" (defArgs s_Fontsdd_initdd) (defBody s_Fontsdd_initdd) (defScope s_Fontsdd_initdd) .none (.ref kD17) dc17 pm17 an17 cd17 ct17) := ⟨⟨oc17, od17, _, _, dc17, pm17, an17, cd17, ct17, sl17, rfl, l17, c17, .inl ⟨rfl, rfl⟩, .inr ⟨kD17, rfl, fun q hq => by rw [List.mem_singleton] at hq; subst hq; exact ⟨Value.none, kd17, rfl⟩⟩⟩, k17⟩
  have F17 : FunG K "__init__" "Fonts.__init__" s_Fontsdd_initdd f17 (PySem.W.fnOf "__init__" "Fonts.__init__" (defArgs s_Fontsdd_initdd) (defBody s_Fontsdd_initdd) (defScope s_Fontsdd_initdd) .none (.ref kD17) dc17 pm17 an17 cd17 ct17) := ⟨⟨oc17, od17, _, _, dc17, pm17, an17, cd17, ct17, sl17, rfl, l17, c17⟩, k17⟩
  have b17 : L2.Binds K (PySem.W.fnOf "__init__" "Fonts.__init__" (defArgs s_Fontsdd_initdd) (defBody s_Fontsdd_initdd) (defScope s_Fontsdd_initdd) .none (.ref kD17) dc17 pm17 an17 cd17 ct17) ["self", "families", "numbers", "settings", "skew"] [Value.none] := by
    obtain ⟨ds, v, z⟩ := FD17.binds0 (ps := ["self", "families", "numbers", "settings", "skew"]) 4 (by simp) rfl (fun D doc pm an cdv ct us ks hu hk => match us, ks, hu, hk with | [_, _, _, _], [_], _, _ => ⟨_, _, _, _, _, _, rfl, rfl, rfl⟩)
    cases v with
    | cons a r => cases r; cases a; exact z
  have G18 := fun_mk (x := "_law_fonts") (qual := "_law_fonts") (st := s_law_fonts) l18 c18 k18
  have F18 := FunG.of G18
  have b18 := G18.binds (ps := ["world"]) fun _ _ _ _ _ _ us hl => match us, hl with | [_], _ => rfl
  have G19 := fun_mk (x := "_law_over") (qual := "_law_over") (st := s_law_over) l19 c19 k19
  have F19 := FunG.of G19
  have b19 := G19.binds (ps := ["box", "thick"]) fun _ _ _ _ _ _ us hl => match us, hl with | [_, _], _ => rfl
  have G20 := fun_mk (x := "_law_size") (qual := "_law_size") (st := s_law_size) l20 c20 k20
  have F20 := FunG.of G20
  have b20 := G20.binds (ps := ["style"]) fun _ _ _ _ _ _ us hl => match us, hl with | [_], _ => rfl
  have G21 := fun_mk (x := "_law_under") (qual := "_law_under") (st := s_law_under) l21 c21 k21
  have F21 := FunG.of G21
  have b21 := G21.binds (ps := ["box", "thick"]) fun _ _ _ _ _ _ us hl => match us, hl with | [_, _], _ => rfl
  have G22 := fun_mk (x := "check_fonts") (qual := "check_fonts") (st := s_check_fonts) l22 c22 k22
  have F22 := FunG.of G22
  have b22 := G22.binds (ps := ["fonts"]) fun _ _ _ _ _ _ us hl => match us, hl with | [_], _ => rfl
  have G23 := fun_mk (x := "is_path") (qual := "is_path") (st := s_is_path) l23 c23 k23
  have F23 := FunG.of G23
  have b23 := G23.binds (ps := ["thing"]) fun _ _ _ _ _ _ us hl => match us, hl with | [_], _ => rfl
  have G24 := fun_mk (x := "is_whole") (qual := "is_whole") (st := s_is_whole) l24 c24 k24
  have F24 := FunG.of G24
  have b24 := G24.binds (ps := ["thing"]) fun _ _ _ _ _ _ us hl => match us, hl with | [_], _ => rfl
  have G25 := fun_mk (x := "is_mark") (qual := "is_mark") (st := s_is_mark) l25 c25 k25
  have F25 := FunG.of G25
  have b25 := G25.binds (ps := ["thing"]) fun _ _ _ _ _ _ us hl => match us, hl with | [_], _ => rfl
  have G26 := fun_mk (x := "is_placed") (qual := "is_placed") (st := s_is_placed) l26 c26 k26
  have F26 := FunG.of G26
  have b26 := G26.binds (ps := ["thing"]) fun _ _ _ _ _ _ us hl => match us, hl with | [_], _ => rfl
  have G27 := fun_mk (x := "check_box") (qual := "check_box") (st := s_check_box) l27 c27 k27
  have F27 := FunG.of G27
  have b27 := G27.binds (ps := ["box"]) fun _ _ _ _ _ _ us hl => match us, hl with | [_], _ => rfl
  have G28 := fun_mk (x := "check_part") (qual := "check_part") (st := s_check_part) l28 c28 k28
  have F28 := FunG.of G28
  have b28 := G28.binds (ps := ["part", "value"]) fun _ _ _ _ _ _ us hl => match us, hl with | [_, _], _ => rfl
  have G29 := fun_mk (x := "check_style") (qual := "check_style") (st := s_check_style) l29 c29 k29
  have F29 := FunG.of G29
  have b29 := G29.binds (ps := ["style"]) fun _ _ _ _ _ _ us hl => match us, hl with | [_], _ => rfl
  have G30 := fun_mk (x := "check_inner") (qual := "check_inner") (st := s_check_inner) l30 c30 k30
  have F30 := FunG.of G30
  have b30 := G30.binds (ps := ["fonts", "style", "inner"]) fun _ _ _ _ _ _ us hl => match us, hl with | [_, _, _], _ => rfl
  have G31 := fun_mk (x := "amount") (qual := "Fonts.amount") (st := s_Fonts_amount) l31 c31 k31
  have F31 := FunG.of G31
  have b31 := G31.binds (ps := ["self", "size", "word"]) fun _ _ _ _ _ _ us hl => match us, hl with | [_, _, _], _ => rfl
  have G32 := fun_mk (x := "rule_box") (qual := "rule_box") (st := s_rule_box) l32 c32 k32
  have F32 := FunG.of G32
  have b32 := G32.binds (ps := ["path", "width", "height"]) fun _ _ _ _ _ _ us hl => match us, hl with | [_, _, _], _ => rfl
  have G33 := fun_mk (x := "size_of") (qual := "size_of") (st := s_size_of) l33 c33 k33
  have F33 := FunG.of G33
  have b33 := G33.binds (ps := ["style"]) fun _ _ _ _ _ _ us hl => match us, hl with | [_], _ => rfl
  have G34 := fun_mk (x := "marks_moved") (qual := "marks_moved") (st := s_marks_moved) l34 c34 k34
  have F34 := FunG.of G34
  have b34 := G34.binds (ps := ["box", "dx", "dy"]) fun _ _ _ _ _ _ us hl => match us, hl with | [_, _, _], _ => rfl
  have G35 := fun_mk (x := "together_box") (qual := "together_box") (st := s_together_box) l35 c35 k35
  have F35 := FunG.of G35
  have b35 := G35.binds (ps := ["width", "height", "depth", "placed"]) fun _ _ _ _ _ _ us hl => match us, hl with | [_, _, _, _], _ => rfl
  have G36 := fun_mk (x := "over_box") (qual := "over_box") (st := s_over_box) l36 c36 k36
  have F36 := FunG.of G36
  have b36 := G36.binds (ps := ["fonts", "style", "path", "inner"]) fun _ _ _ _ _ _ us hl => match us, hl with | [_, _, _, _], _ => rfl
  have G37 := fun_mk (x := "overlined") (qual := "overlined") (st := s_overlined) l37 c37 k37
  have F37 := FunG.of G37
  have b37 := G37.binds (ps := ["fonts", "style", "inner"]) fun _ _ _ _ _ _ us hl => match us, hl with | [_, _, _], _ => rfl
  have G38 := fun_mk (x := "under_box") (qual := "under_box") (st := s_under_box) l38 c38 k38
  have F38 := FunG.of G38
  have b38 := G38.binds (ps := ["fonts", "style", "path", "inner"]) fun _ _ _ _ _ _ us hl => match us, hl with | [_, _, _, _], _ => rfl
  have G39 := fun_mk (x := "underlined") (qual := "underlined") (st := s_underlined) l39 c39 k39
  have F39 := FunG.of G39
  have b39 := G39.binds (ps := ["fonts", "style", "inner"]) fun _ _ _ _ _ _ us hl => match us, hl with | [_, _, _], _ => rfl
  have G40 := fun_mk (x := "_law_right") (qual := "_law_right") (st := s_law_right) l40 c40 k40
  have F40 := FunG.of G40
  have b40 := G40.binds (ps := ["fonts", "world", "style", "box"]) fun _ _ _ _ _ _ us hl => match us, hl with | [_, _, _, _], _ => rfl
  have G41 := fun_mk (x := "_law_words") (qual := "_law_words") (st := s_law_words) l41 c41 k41
  have F41 := FunG.of G41
  have b41 := G41.binds (ps := []) fun _ _ _ _ _ _ us hl => match us, hl with | [], _ => rfl
  have G42 := fun_mk (x := "_law_world") (qual := "_law_world") (st := s_law_world) l42 c42 k42
  have F42 := FunG.of G42
  have b42 := G42.binds (ps := ["digits", "grow"]) fun _ _ _ _ _ _ us hl => match us, hl with | [_, _], _ => rfl
  have G43 := fun_mk (x := "law") (qual := "law") (st := s_law) l43 c43 k43
  have F43 := FunG.of G43
  have b43 := G43.binds (ps := ["script"]) fun _ _ _ _ _ _ us hl => match us, hl with | [_], _ => rfl
  have clBox : Cls K C6 := ⟨pgBox, hdBox, poBox, saBox⟩
  have clFonts : Cls K C5 := ⟨pgFonts, hdFonts, poFonts, saFonts⟩
  have tx : Txt w K mg (fun c => ([0, 0, C2, 0, 0, C5, C6] : List Addr).getD c 0) (fun i => ([f0, f1, f2, f3, f4, f5, f6, f7, f8, f9, f10, f11, f12, f13, f14, f15, f16, f17, f18, f19, f20, f21, f22, f23, f24, f25, f26, f27, f28, f29, f30, f31, f32, f33, f34, f35, f36, f37, f38, f39, f40, f41, f42, f43] : List Addr).getD i 0) (fun i => match i with | 0 => PySem.W.fnOf "sizes_of" "sizes_of" (defArgs s_sizes_of) (defBody s_sizes_of) (defScope s_sizes_of) .none kV0 dc0 pm0 an0 cd0 ct0 | 1 => PySem.W.fnOf "__eq__" "Box.__eq__" (defArgs s_Boxdd_eqdd) (defBody s_Boxdd_eqdd) (defScope s_Boxdd_eqdd) .none kV1 dc1 pm1 an1 cd1 ct1 | 2 => PySem.W.fnOf "__init__" "Box.__init__" (defArgs s_Boxdd_initdd) (defBody s_Boxdd_initdd) (defScope s_Boxdd_initdd) (.ref dT2) kV2 dc2 pm2 an2 cd2 ct2 | 3 => PySem.W.fnOf "_law_box" "_law_box" (defArgs s_law_box) (defBody s_law_box) (defScope s_law_box) .none kV3 dc3 pm3 an3 cd3 ct3 | 4 => PySem.W.fnOf "_law_digits" "_law_digits" (defArgs s_law_digits) (defBody s_law_digits) (defScope s_law_digits) .none kV4 dc4 pm4 an4 cd4 ct4 | 5 => PySem.W.fnOf "is_circle" "is_circle" (defArgs s_is_circle) (defBody s_is_circle) (defScope s_is_circle) .none kV5 dc5 pm5 an5 cd5 ct5 | 6 => PySem.W.fnOf "is_integer" "is_integer" (defArgs s_is_integer) (defBody s_is_integer) (defScope s_is_integer) .none kV6 dc6 pm6 an6 cd6 ct6 | 7 => PySem.W.fnOf "is_between" "is_between" (defArgs s_is_between) (defBody s_is_between) (defScope s_is_between) .none kV7 dc7 pm7 an7 cd7 ct7 | 8 => PySem.W.fnOf "is_name" "is_name" (defArgs s_is_name) (defBody s_is_name) (defScope s_is_name) .none kV8 dc8 pm8 an8 cd8 ct8 | 9 => PySem.W.fnOf "is_tuple" "is_tuple" (defArgs s_is_tuple) (defBody s_is_tuple) (defScope s_is_tuple) .none kV9 dc9 pm9 an9 cd9 ct9 | 10 => PySem.W.fnOf "is_glyph" "is_glyph" (defArgs s_is_glyph) (defBody s_is_glyph) (defScope s_is_glyph) .none kV10 dc10 pm10 an10 cd10 ct10 | 11 => PySem.W.fnOf "is_pair" "is_pair" (defArgs s_is_pair) (defBody s_is_pair) (defScope s_is_pair) .none kV11 dc11 pm11 an11 cd11 ct11 | 12 => PySem.W.fnOf "check_face" "check_face" (defArgs s_check_face) (defBody s_check_face) (defScope s_check_face) .none kV12 dc12 pm12 an12 cd12 ct12 | 13 => PySem.W.fnOf "check_families" "check_families" (defArgs s_check_families) (defBody s_check_families) (defScope s_check_families) .none kV13 dc13 pm13 an13 cd13 ct13 | 14 => PySem.W.fnOf "most_of" "most_of" (defArgs s_most_of) (defBody s_most_of) (defScope s_most_of) .none kV14 dc14 pm14 an14 cd14 ct14 | 15 => PySem.W.fnOf "check_words" "check_words" (defArgs s_check_words) (defBody s_check_words) (defScope s_check_words) .none kV15 dc15 pm15 an15 cd15 ct15 | 16 => PySem.W.fnOf "copied_face" "copied_face" (defArgs s_copied_face) (defBody s_copied_face) (defScope s_copied_face) .none kV16 dc16 pm16 an16 cd16 ct16 | 17 => PySem.W.fnOf "__init__" "Fonts.__init__" (defArgs s_Fontsdd_initdd) (defBody s_Fontsdd_initdd) (defScope s_Fontsdd_initdd) .none (.ref kD17) dc17 pm17 an17 cd17 ct17 | 18 => PySem.W.fnOf "_law_fonts" "_law_fonts" (defArgs s_law_fonts) (defBody s_law_fonts) (defScope s_law_fonts) .none kV18 dc18 pm18 an18 cd18 ct18 | 19 => PySem.W.fnOf "_law_over" "_law_over" (defArgs s_law_over) (defBody s_law_over) (defScope s_law_over) .none kV19 dc19 pm19 an19 cd19 ct19 | 20 => PySem.W.fnOf "_law_size" "_law_size" (defArgs s_law_size) (defBody s_law_size) (defScope s_law_size) .none kV20 dc20 pm20 an20 cd20 ct20 | 21 => PySem.W.fnOf "_law_under" "_law_under" (defArgs s_law_under) (defBody s_law_under) (defScope s_law_under) .none kV21 dc21 pm21 an21 cd21 ct21 | 22 => PySem.W.fnOf "check_fonts" "check_fonts" (defArgs s_check_fonts) (defBody s_check_fonts) (defScope s_check_fonts) .none kV22 dc22 pm22 an22 cd22 ct22 | 23 => PySem.W.fnOf "is_path" "is_path" (defArgs s_is_path) (defBody s_is_path) (defScope s_is_path) .none kV23 dc23 pm23 an23 cd23 ct23 | 24 => PySem.W.fnOf "is_whole" "is_whole" (defArgs s_is_whole) (defBody s_is_whole) (defScope s_is_whole) .none kV24 dc24 pm24 an24 cd24 ct24 | 25 => PySem.W.fnOf "is_mark" "is_mark" (defArgs s_is_mark) (defBody s_is_mark) (defScope s_is_mark) .none kV25 dc25 pm25 an25 cd25 ct25 | 26 => PySem.W.fnOf "is_placed" "is_placed" (defArgs s_is_placed) (defBody s_is_placed) (defScope s_is_placed) .none kV26 dc26 pm26 an26 cd26 ct26 | 27 => PySem.W.fnOf "check_box" "check_box" (defArgs s_check_box) (defBody s_check_box) (defScope s_check_box) .none kV27 dc27 pm27 an27 cd27 ct27 | 28 => PySem.W.fnOf "check_part" "check_part" (defArgs s_check_part) (defBody s_check_part) (defScope s_check_part) .none kV28 dc28 pm28 an28 cd28 ct28 | 29 => PySem.W.fnOf "check_style" "check_style" (defArgs s_check_style) (defBody s_check_style) (defScope s_check_style) .none kV29 dc29 pm29 an29 cd29 ct29 | 30 => PySem.W.fnOf "check_inner" "check_inner" (defArgs s_check_inner) (defBody s_check_inner) (defScope s_check_inner) .none kV30 dc30 pm30 an30 cd30 ct30 | 31 => PySem.W.fnOf "amount" "Fonts.amount" (defArgs s_Fonts_amount) (defBody s_Fonts_amount) (defScope s_Fonts_amount) .none kV31 dc31 pm31 an31 cd31 ct31 | 32 => PySem.W.fnOf "rule_box" "rule_box" (defArgs s_rule_box) (defBody s_rule_box) (defScope s_rule_box) .none kV32 dc32 pm32 an32 cd32 ct32 | 33 => PySem.W.fnOf "size_of" "size_of" (defArgs s_size_of) (defBody s_size_of) (defScope s_size_of) .none kV33 dc33 pm33 an33 cd33 ct33 | 34 => PySem.W.fnOf "marks_moved" "marks_moved" (defArgs s_marks_moved) (defBody s_marks_moved) (defScope s_marks_moved) .none kV34 dc34 pm34 an34 cd34 ct34 | 35 => PySem.W.fnOf "together_box" "together_box" (defArgs s_together_box) (defBody s_together_box) (defScope s_together_box) .none kV35 dc35 pm35 an35 cd35 ct35 | 36 => PySem.W.fnOf "over_box" "over_box" (defArgs s_over_box) (defBody s_over_box) (defScope s_over_box) .none kV36 dc36 pm36 an36 cd36 ct36 | 37 => PySem.W.fnOf "overlined" "overlined" (defArgs s_overlined) (defBody s_overlined) (defScope s_overlined) .none kV37 dc37 pm37 an37 cd37 ct37 | 38 => PySem.W.fnOf "under_box" "under_box" (defArgs s_under_box) (defBody s_under_box) (defScope s_under_box) .none kV38 dc38 pm38 an38 cd38 ct38 | 39 => PySem.W.fnOf "underlined" "underlined" (defArgs s_underlined) (defBody s_underlined) (defScope s_underlined) .none kV39 dc39 pm39 an39 cd39 ct39 | 40 => PySem.W.fnOf "_law_right" "_law_right" (defArgs s_law_right) (defBody s_law_right) (defScope s_law_right) .none kV40 dc40 pm40 an40 cd40 ct40 | 41 => PySem.W.fnOf "_law_words" "_law_words" (defArgs s_law_words) (defBody s_law_words) (defScope s_law_words) .none kV41 dc41 pm41 an41 cd41 ct41 | 42 => PySem.W.fnOf "_law_world" "_law_world" (defArgs s_law_world) (defBody s_law_world) (defScope s_law_world) .none kV42 dc42 pm42 an42 cd42 ct42 | _ => PySem.W.fnOf "law" "law" (defArgs s_law) (defBody s_law) (defScope s_law) .none kV43 dc43 pm43 an43 cd43 ct43) := {
    F_sizes_of := F0
    b_sizes_of := b0
    g_sizes_of := PySem.W.mg_of X G a0
    F_Boxdd_eqdd := F1
    b_Boxdd_eqdd := b1
    F_Boxdd_initdd := F2
    b_Boxdd_initdd := b2
    bt_Boxdd_initdd := bt2
    F_law_box := F3
    b_law_box := b3
    g_law_box := PySem.W.mg_of X G a3
    F_law_digits := F4
    b_law_digits := b4
    g_law_digits := PySem.W.mg_of X G a4
    F_is_circle := F5
    b_is_circle := b5
    g_is_circle := PySem.W.mg_of X G a5
    F_is_integer := F6
    b_is_integer := b6
    g_is_integer := PySem.W.mg_of X G a6
    F_is_between := F7
    b_is_between := b7
    g_is_between := PySem.W.mg_of X G a7
    F_is_name := F8
    b_is_name := b8
    g_is_name := PySem.W.mg_of X G a8
    F_is_tuple := F9
    b_is_tuple := b9
    g_is_tuple := PySem.W.mg_of X G a9
    F_is_glyph := F10
    b_is_glyph := b10
    g_is_glyph := PySem.W.mg_of X G a10
    F_is_pair := F11
    b_is_pair := b11
    g_is_pair := PySem.W.mg_of X G a11
    F_check_face := F12
    b_check_face := b12
    g_check_face := PySem.W.mg_of X G a12
    F_check_families := F13
    b_check_families := b13
    g_check_families := PySem.W.mg_of X G a13
    F_most_of := F14
    b_most_of := b14
    g_most_of := PySem.W.mg_of X G a14
    F_check_words := F15
    b_check_words := b15
    g_check_words := PySem.W.mg_of X G a15
    F_copied_face := F16
    b_copied_face := b16
    g_copied_face := PySem.W.mg_of X G a16
    F_Fontsdd_initdd := F17
    bd_Fontsdd_initdd := b17
    F_law_fonts := F18
    b_law_fonts := b18
    g_law_fonts := PySem.W.mg_of X G a18
    F_law_over := F19
    b_law_over := b19
    g_law_over := PySem.W.mg_of X G a19
    F_law_size := F20
    b_law_size := b20
    g_law_size := PySem.W.mg_of X G a20
    F_law_under := F21
    b_law_under := b21
    g_law_under := PySem.W.mg_of X G a21
    F_check_fonts := F22
    b_check_fonts := b22
    g_check_fonts := PySem.W.mg_of X G a22
    F_is_path := F23
    b_is_path := b23
    g_is_path := PySem.W.mg_of X G a23
    F_is_whole := F24
    b_is_whole := b24
    g_is_whole := PySem.W.mg_of X G a24
    F_is_mark := F25
    b_is_mark := b25
    g_is_mark := PySem.W.mg_of X G a25
    F_is_placed := F26
    b_is_placed := b26
    g_is_placed := PySem.W.mg_of X G a26
    F_check_box := F27
    b_check_box := b27
    g_check_box := PySem.W.mg_of X G a27
    F_check_part := F28
    b_check_part := b28
    g_check_part := PySem.W.mg_of X G a28
    F_check_style := F29
    b_check_style := b29
    g_check_style := PySem.W.mg_of X G a29
    F_check_inner := F30
    b_check_inner := b30
    g_check_inner := PySem.W.mg_of X G a30
    F_Fonts_amount := F31
    b_Fonts_amount := b31
    F_rule_box := F32
    b_rule_box := b32
    g_rule_box := PySem.W.mg_of X G a32
    F_size_of := F33
    b_size_of := b33
    g_size_of := PySem.W.mg_of X G a33
    F_marks_moved := F34
    b_marks_moved := b34
    g_marks_moved := PySem.W.mg_of X G a34
    F_together_box := F35
    b_together_box := b35
    g_together_box := PySem.W.mg_of X G a35
    F_over_box := F36
    b_over_box := b36
    g_over_box := PySem.W.mg_of X G a36
    F_overlined := F37
    b_overlined := b37
    g_overlined := PySem.W.mg_of X G a37
    F_under_box := F38
    b_under_box := b38
    g_under_box := PySem.W.mg_of X G a38
    F_underlined := F39
    b_underlined := b39
    g_underlined := PySem.W.mg_of X G a39
    F_law_right := F40
    b_law_right := b40
    g_law_right := PySem.W.mg_of X G a40
    F_law_words := F41
    b_law_words := b41
    g_law_words := PySem.W.mg_of X G a41
    F_law_world := F42
    b_law_world := b42
    g_law_world := PySem.W.mg_of X G a42
    F_law := F43
    b_law := b43
    g_law := PySem.W.mg_of X G a43
    g_Box := PySem.W.mg_of X G gBox
    C_Box := clBox
    M_Box := ⟨mkBox, inBox, ifBox, ckBox⟩
    g_Fonts := PySem.W.mg_of X G gFonts
    C_Fonts := clFonts
    M_Fonts := ⟨mkFonts, inFonts, ifFonts, ckFonts⟩
    m_Fonts_amount := ⟨mt31, mf31, k31⟩
    q_Box := ⟨qeBox, qfBox, _, _, _, _, _, _, _, _, _, _, _, _, _, _, _, _, _, _, _, _, _, qlBox, qmBox, qkBox, qvBox, qwBox⟩
    f_depth := fun c hc => by
      rcases (by simpa using hc : c = 6) with rfl
      · exact ⟨clBox, nadepthBox⟩
    f_family_rows := fun c hc => by
      rcases (by simpa using hc : c = 5) with rfl
      · exact ⟨clFonts, nafamily_rowsFonts⟩
    f_height := fun c hc => by
      rcases (by simpa using hc : c = 6) with rfl
      · exact ⟨clBox, naheightBox⟩
    f_marks := fun c hc => by
      rcases (by simpa using hc : c = 6) with rfl
      · exact ⟨clBox, namarksBox⟩
    f_number_rows := fun c hc => by
      rcases (by simpa using hc : c = 5) with rfl
      · exact ⟨clFonts, nanumber_rowsFonts⟩
    f_setting_rows := fun c hc => by
      rcases (by simpa using hc : c = 5) with rfl
      · exact ⟨clFonts, nasetting_rowsFonts⟩
    f_skew_name := fun c hc => by
      rcases (by simpa using hc : c = 5) with rfl
      · exact ⟨clFonts, naskew_nameFonts⟩
    f_width := fun c hc => by
      rcases (by simpa using hc : c = 6) with rfl
      · exact ⟨clBox, nawidthBox⟩
    n_all := PySem.W.mg_none_of X G zall
    n_bool := PySem.W.mg_none_of X G zbool
    n_dict := PySem.W.mg_none_of X G zdict
    n_enumerate := PySem.W.mg_none_of X G zenumerate
    n_int := PySem.W.mg_none_of X G zint
    n_isinstance := PySem.W.mg_none_of X G zisinstance
    n_len := PySem.W.mg_none_of X G zlen
    n_list := PySem.W.mg_none_of X G zlist
    n_max := PySem.W.mg_none_of X G zmax
    n_range := PySem.W.mg_none_of X G zrange
    n_sorted := PySem.W.mg_none_of X G zsorted
    n_str := PySem.W.mg_none_of X G zstr
    n_tuple := PySem.W.mg_none_of X G ztuple
    n_zip := PySem.W.mg_none_of X G zzip
    g_InvalidBox := PySem.W.mg_of X G gInvalidBox
    hm_InvalidBox := fun c b e => by
      unfold mt_InvalidBox at e
      cases e
    gc_LETTERS := ⟨_, PySem.W.mg_of X G gcLETTERS, krep_str⟩
    gc_MOST := ⟨_, PySem.W.mg_of X G gcMOST, krep_int⟩
    gc_MOST_FACTOR := ⟨_, PySem.W.mg_of X G gcMOST_FACTOR, krep_int⟩
    gc_MOST_FAMILIES := ⟨_, PySem.W.mg_of X G gcMOST_FAMILIES, krep_int⟩
    gc_MOST_GLYPHS := ⟨_, PySem.W.mg_of X G gcMOST_GLYPHS, krep_int⟩
    gc_MOST_LETTERS := ⟨_, PySem.W.mg_of X G gcMOST_LETTERS, krep_int⟩
    gc_SETTINGS := ⟨_, PySem.W.mg_of X G gcSETTINGS, (krep_tup (its := [(.str "scriptspace" ktSETTINGS_2), (.str "factor" ktSETTINGS_3), (.str "short" ktSETTINGS_4), (.str "empty" ktSETTINGS_5), (.str "thin" ktSETTINGS_6), (.str "medium" ktSETTINGS_7), (.str "thick" ktSETTINGS_8), (.str "baseline" ktSETTINGS_9), (.str "apart" ktSETTINGS_10), (.str "column" ktSETTINGS_11), (.str "indent" ktSETTINGS_12)]) klSETTINGS_1 rfl rfl (by simp) (kreps_cons krep_str (kreps_cons krep_str (kreps_cons krep_str (kreps_cons krep_str (kreps_cons krep_str (kreps_cons krep_str (kreps_cons krep_str (kreps_cons krep_str (kreps_cons krep_str (kreps_cons krep_str (kreps_cons krep_str kreps_nil))))))))))))⟩
    gc_WORDS := ⟨_, PySem.W.mg_of X G gcWORDS, (krep_tup (its := [(.str "xheight" ktWORDS_14), (.str "quad" ktWORDS_15), (.str "up1" ktWORDS_16), (.str "up2" ktWORDS_17), (.str "up3" ktWORDS_18), (.str "down1" ktWORDS_19), (.str "down2" ktWORDS_20), (.str "sup1" ktWORDS_21), (.str "sup2" ktWORDS_22), (.str "sup3" ktWORDS_23), (.str "sub1" ktWORDS_24), (.str "sub2" ktWORDS_25), (.str "supdrop" ktWORDS_26), (.str "subdrop" ktWORDS_27), (.str "delim1" ktWORDS_28), (.str "delim2" ktWORDS_29), (.str "axis" ktWORDS_30), (.str "rule" ktWORDS_31), (.str "gap1" ktWORDS_32), (.str "gap2" ktWORDS_33), (.str "gap3" ktWORDS_34), (.str "gap4" ktWORDS_35), (.str "gap5" ktWORDS_36)]) klWORDS_13 rfl rfl (by simp) (kreps_cons krep_str (kreps_cons krep_str (kreps_cons krep_str (kreps_cons krep_str (kreps_cons krep_str (kreps_cons krep_str (kreps_cons krep_str (kreps_cons krep_str (kreps_cons krep_str (kreps_cons krep_str (kreps_cons krep_str (kreps_cons krep_str (kreps_cons krep_str (kreps_cons krep_str (kreps_cons krep_str (kreps_cons krep_str (kreps_cons krep_str (kreps_cons krep_str (kreps_cons krep_str (kreps_cons krep_str (kreps_cons krep_str (kreps_cons krep_str (kreps_cons krep_str kreps_nil))))))))))))))))))))))))⟩
    kit := {
      cls := fun c hc => by
        rcases (by simpa using hc : c = 6 ∨ c = 5) with rfl | rfl
        · exact ⟨clBox, xcBox, xmBox⟩
        · exact ⟨clFonts, xcFonts, xmFonts⟩
      hn := xhn
      tk := xtk
      bo := fun n hn c hc => by
        rcases (by simpa using hc : c = 6 ∨ c = 5) with rfl | rfl
        · rcases (by simpa using hn : n = "NoneType" ∨ n = "bool" ∨ n = "int" ∨ n = "str" ∨ n = "tuple" ∨ n = "list" ∨ n = "dict") with rfl | rfl | rfl | rfl | rfl | rfl | rfl
          · exact kit_bo xmBox xtBox (by simp)
          · exact kit_bo xmBox xtBox (by simp)
          · exact kit_bo xmBox xtBox (by simp)
          · exact kit_bo xmBox xtBox (by simp)
          · exact kit_bo xmBox xtBox (by simp)
          · exact kit_bo xmBox xtBox (by simp)
          · exact kit_bo xmBox xtBox (by simp)
        · rcases (by simpa using hn : n = "NoneType" ∨ n = "bool" ∨ n = "int" ∨ n = "str" ∨ n = "tuple" ∨ n = "list" ∨ n = "dict") with rfl | rfl | rfl | rfl | rfl | rfl | rfl
          · exact kit_bo xmFonts xtFonts (by simp)
          · exact kit_bo xmFonts xtFonts (by simp)
          · exact kit_bo xmFonts xtFonts (by simp)
          · exact kit_bo xmFonts xtFonts (by simp)
          · exact kit_bo xmFonts xtFonts (by simp)
          · exact kit_bo xmFonts xtFonts (by simp)
          · exact kit_bo xmFonts xtFonts (by simp)
      ob := fun c hc n hn => by
        rcases (by simpa using hc : c = 6 ∨ c = 5) with rfl | rfl
        · rcases (by simpa using hn : n = "int" ∨ n = "bool" ∨ n = "str" ∨ n = "list" ∨ n = "tuple" ∨ n = "dict") with rfl | rfl | rfl | rfl | rfl | rfl
          · exact kit_ob xoBoxint (by decide +kernel)
          · exact kit_ob xoBoxbool (by decide +kernel)
          · exact kit_ob xoBoxstr (by decide +kernel)
          · exact kit_ob xoBoxlist (by decide +kernel)
          · exact kit_ob xoBoxtuple (by decide +kernel)
          · exact kit_ob xoBoxdict (by decide +kernel)
        · rcases (by simpa using hn : n = "int" ∨ n = "bool" ∨ n = "str" ∨ n = "list" ∨ n = "tuple" ∨ n = "dict") with rfl | rfl | rfl | rfl | rfl | rfl
          · exact kit_ob xoFontsint (by decide +kernel)
          · exact kit_ob xoFontsbool (by decide +kernel)
          · exact kit_ob xoFontsstr (by decide +kernel)
          · exact kit_ob xoFontslist (by decide +kernel)
          · exact kit_ob xoFontstuple (by decide +kernel)
          · exact kit_ob xoFontsdict (by decide +kernel)
      oo := fun c hc c' hc' => by
        rcases (by simpa using hc : c = 6 ∨ c = 5) with rfl | rfl
        · rcases (by simpa using hc' : c' = 6 ∨ c' = 5) with rfl | rfl
          · exact kit_self
          · exact kit_oo xxBoxFonts xnBoxFonts xmFonts xtFonts
        · rcases (by simpa using hc' : c' = 6 ∨ c' = 5) with rfl | rfl
          · exact kit_oo xxFontsBox xnFontsBox xmBox xtBox
          · exact kit_self
    }
  }
  exact ⟨PySem.W.fnOf "law" "law" (defArgs s_law) (defBody s_law) (defScope s_law) .none kV43 dc43 pm43 an43 cd43 ct43, (fun c => ([0, 0, C2, 0, 0, C5, C6] : List Addr).getD c 0), fun s u => .of_eq rfl, fun base _ _ => ok_law tx⟩
end Qk52
end

section
set_option linter.all false
set_option maxHeartbeats 4000000
namespace Qk52
open PySem L2 T
/-! ### the digits -/
def Dg (d : D) : Prop := ∃ i : Int, d = .int i ∧ 0 ≤ i ∧ i < 1009
theorem szl {n : Nat} (h : n ≤ 1000) : n ≤ sizeLine := by rw [PySem.sizeLine_eq]; omega
theorem loop_nx {g : D → Ro → RS} {d : D} {ds : List D} {ρ ρ1 : Ro} (h : g d ρ = .nx ρ1) : loop g (d :: ds) ρ = loop g ds ρ1 := by
  show (match g d ρ with | .nx ρ1 => loop g ds ρ1 | .ct ρ1 => loop g ds ρ1 | .bk ρ1 => .nx ρ1 | r => r) = _
  rw [h]
theorem mSeq_nx {m n : Ro → RS} {ρ ρ1 : Ro} (h : m ρ = .nx ρ1) : mSeq m n ρ = n ρ1 := by rw [mSeq_app, h]
abbrev d1 : Ro → RS := mAsg (m2 oMod (mN oInt (mCons (m2 oAddA (m2 oAddA (m2 oMulI (mV 4) (mC (.int 48271))) (m2 oMulI (mC (.int 30103)) (mV 5))) (mC (.int 11))) mNil)) (mC (.int 2147483647))) (gSet 4)
abbrev d2 : Ro → RS := mAsg (m2 oMod (mN oInt (mCons (m2 oMulI (mV 4) (m2 oAddA (m2 oFdiv (mV 4) (mC (.int 1009))) (mC (.int 69621)))) mNil)) (mC (.int 2147483629))) (gSet 4)
abbrev d3 : Ro → RS := mIfS (mT (m2 oGt (mV 3) (mC (.int 0)))) (mSeq (mMut 2 fApp (m2 oMod (mN oInt (mCons (mV 3) mNil)) (mC (.int 1009)))) (mAsg (m2 oFdiv (mV 3) (mC (.int 1009))) (gSet 3))) (mMut 2 fApp (m2 oMod (mN oInt (mCons (m2 oFdiv (mV 4) (mC (.int 7))) mNil)) (mC (.int 1009))))
abbrev dBody : Ro → RS := mSeq d1 (mSeq d2 d3)
theorem app_ok {m : Ro → R D} {o0 o1 o3 o4 o5 : Option D} {ms : List D} {d : D} (hl : ms.length < 200) (h : m [o0, o1, some (.lst true ms), o3, o4, o5] = .ok d [o0, o1, some (.lst true ms), o3, o4, o5]) :
    mMut 2 fApp m [o0, o1, some (.lst true ms), o3, o4, o5] = .nx [o0, o1, some (.lst true (ms ++ [d])), o3, o4, o5] := by
  have z : ms.length < sizeLine := Nat.lt_of_lt_of_le (show ms.length < 1000 by omega) (szl (Nat.le_refl _))
  unfold mMut
  simp [h, fApp, z]
theorem dig_step {c n : D} {ms : List D} {r x k : Int} (hx : 0 ≤ x ∧ x < 2147483647) (hl : ms.length < 200) : ∃ d r' x', Dg d ∧ 0 ≤ x' ∧ x' < 2147483647 ∧ dBody [some c, some n, some (.lst true ms), some (.int r), some (.int x), some (.int k)] = .nx [some c, some n, some (.lst true (ms ++ [d])), some (.int r'), some (.int x'), some (.int k)] := by
  have q1 := mulOk_right (x := x) (y := 48271) (by decide)
  have q2 := mulOk_left (x := 30103) (y := k) (by decide)
  have e1 : d1 [some c, some n, some (.lst true ms), some (.int r), some (.int x), some (.int k)] = .nx [some c, some n, some (.lst true ms), some (.int r), some (.int ((x * 48271 + 30103 * k + 11) % 2147483647)), some (.int k)] := by
    simp [q1, q2, oInt, oAddA]
  generalize hy : (x * 48271 + 30103 * k + 11) % 2147483647 = y at e1
  have y0 : 0 ≤ y := by rw [← hy]; exact Int.emod_nonneg _ (by decide)
  have y1 : y < 2147483647 := by rw [← hy]; exact Int.emod_lt_of_pos _ (by decide)
  have q3 := mulOk_left (x := y) (y := y / 1009 + 69621) (by omega)
  have e2 : d2 [some c, some n, some (.lst true ms), some (.int r), some (.int y), some (.int k)] = .nx [some c, some n, some (.lst true ms), some (.int r), some (.int ((y * (y / 1009 + 69621)) % 2147483629)), some (.int k)] := by
    simp [q3, oInt, oAddA, log2_lit]
  generalize hz : (y * (y / 1009 + 69621)) % 2147483629 = z at e2
  have z0 : 0 ≤ z := by rw [← hz]; exact Int.emod_nonneg _ (by decide)
  have z1 : z < 2147483629 := by rw [← hz]; exact Int.emod_lt_of_pos _ (by decide)
  unfold dBody
  rw [mSeq_nx e1, mSeq_nx e2]
  by_cases hr : 0 < r
  · refine ⟨.int (r % 1009), r / 1009, z, ⟨_, rfl, Int.emod_nonneg _ (by decide), Int.emod_lt_of_pos _ (by decide)⟩, z0, by omega, ?_⟩
    have t : (mT (m2 oGt (mV 3) (mC (.int 0)))) [some c, some n, some (.lst true ms), some (.int r), some (.int z), some (.int k)] = .ok true [some c, some n, some (.lst true ms), some (.int r), some (.int z), some (.int k)] := by simp [hr]
    have a : mMut 2 fApp (m2 oMod (mN oInt (mCons (mV 3) mNil)) (mC (.int 1009))) [some c, some n, some (.lst true ms), some (.int r), some (.int z), some (.int k)] = .nx [some c, some n, some (.lst true (ms ++ [.int (r % 1009)])), some (.int r), some (.int z), some (.int k)] := app_ok hl (by simp [oInt])
    unfold d3
    rw [mIfS_app, t, bS_ok, if_pos rfl, mSeq_nx a]
    simp [log2_lit]
  · refine ⟨.int (z / 7 % 1009), r, z, ⟨_, rfl, Int.emod_nonneg _ (by decide), Int.emod_lt_of_pos _ (by decide)⟩, z0, by omega, ?_⟩
    have t : (mT (m2 oGt (mV 3) (mC (.int 0)))) [some c, some n, some (.lst true ms), some (.int r), some (.int z), some (.int k)] = .ok false [some c, some n, some (.lst true ms), some (.int r), some (.int z), some (.int k)] := by simp [hr]
    have a : mMut 2 fApp (m2 oMod (mN oInt (mCons (m2 oFdiv (mV 4) (mC (.int 7))) mNil)) (mC (.int 1009))) [some c, some n, some (.lst true ms), some (.int r), some (.int z), some (.int k)] = .nx [some c, some n, some (.lst true (ms ++ [.int (z / 7 % 1009)])), some (.int r), some (.int z), some (.int k)] := app_ok hl (by simp [oInt, log2_lit])
    unfold d3
    rw [mIfS_app, t, bS_ok]
    exact a
theorem dig_loop {c n : D} : ∀ (ks : List Int) (ms : List D) (r x : Int) (o5 : Option D), 0 ≤ x ∧ x < 2147483647 → ms.length + ks.length < 200 → (∀ d ∈ ms, Dg d) → ∃ ds r' x' o5', (∀ d ∈ ds, Dg d) ∧ ds.length = ms.length + ks.length ∧ loop (gBody (gSet 5) dBody) (ks.map D.int) [some c, some n, some (.lst true ms), some (.int r), some (.int x), o5] = .nx [some c, some n, some (.lst true ds), some (.int r'), some (.int x'), o5']
  | [], ms, r, x, o5, _, _, h => ⟨ms, r, x, o5, h, rfl, rfl⟩
  | k :: ks, ms, r, x, o5, hx, hl, h => by
    rw [List.length_cons] at hl
    obtain ⟨d, r', x', hd, x0, x1, e⟩ := dig_step (c := c) (n := n) (ms := ms) (r := r) (x := x) (k := k) hx (by omega)
    obtain ⟨ds, r2, x2, o5', h1, h2, h3⟩ := dig_loop ks (ms ++ [d]) r' x' (some (.int k)) ⟨x0, x1⟩ (by rw [List.length_append]; simp; omega) fun y hy => by
      rcases List.mem_append.mp hy with q | q
      · exact h y q
      · rw [List.mem_singleton] at q; rw [q]; exact hd
    refine ⟨ds, r2, x2, o5', h1, by rw [h2, List.length_append]; simp; omega, ?_⟩
    rw [List.map_cons, loop_nx (ρ1 := [some c, some n, some (.lst true (ms ++ [d])), some (.int r'), some (.int x'), some (.int k)])]
    · exact h3
    · exact e
theorem digits (c : Int) : ∃ ds, F_law_digits [.int c, .int 130] = .ok (.lst true ds) [] ∧ (∀ d ∈ ds, Dg d) ∧ ds.length = 130 := by
  unfold F_law_digits m_law_digits
  have e : start0 N_law_digits [.int c, .int 130] = [some (.int c), some (.int 130), none, none, none, none] := rfl
  rw [e]
  have hin : inRng 130 = true := by decide
  have rg : rng 0 130 = ((List.range 130).map fun i : Nat => (0 + (i : Int))).map D.int := by unfold rng; rw [List.map_map]; rfl
  have key : ∀ r : Int, ∃ ds ρ', (∀ d ∈ ds, Dg d) ∧ ds.length = 130 ∧ (mSeq (mAsg (m2 oMod (mN oInt (mCons (mV 0) mNil)) (mC (.int 2147483647))) (gSet 4)) (mSeq (mFor (fun ρ => ((mCons (mV 1) mNil) ρ).bind oRange) (gSet 5) dBody) (mRet (mMv 2)))) [some (.int c), some (.int 130), some (.lst true []), some (.int r), none, none] = .ret (.lst true ds) ρ' := by
    intro r
    have hx : 0 ≤ c % 2147483647 ∧ c % 2147483647 < 2147483647 := ⟨Int.emod_nonneg _ (by decide), Int.emod_lt_of_pos _ (by decide)⟩
    obtain ⟨ds, r', x', o5, h1, h2, h3⟩ := dig_loop (c := .int c) (n := .int 130) ((List.range 130).map fun i : Nat => (0 + (i : Int))) [] r (c % 2147483647) none hx (by simp) (fun _ h => by simp at h)
    refine ⟨ds, [some (.int c), some (.int 130), none, some (.int r'), some (.int x'), o5], h1, by rw [h2]; simp, ?_⟩
    have s1 : (mAsg (m2 oMod (mN oInt (mCons (mV 0) mNil)) (mC (.int 2147483647))) (gSet 4)) [some (.int c), some (.int 130), some (.lst true []), some (.int r), none, none] = .nx [some (.int c), some (.int 130), some (.lst true []), some (.int r), some (.int (c % 2147483647)), none] := by simp [oInt]
    have s2 : (mFor (fun ρ => ((mCons (mV 1) mNil) ρ).bind oRange) (gSet 5) dBody) [some (.int c), some (.int 130), some (.lst true []), some (.int r), some (.int (c % 2147483647)), none] = .nx [some (.int c), some (.int 130), some (.lst true ds), some (.int r'), some (.int x'), o5] := by
      unfold mFor
      simp only [mCons_app, mV1, mNil_app, bind_ok, fz_int, oRange, hin, if_true, bS_ok]
      rw [show (130 : Int).toNat = 130 from rfl, rg]
      exact h3
    rw [mSeq_nx s1, mSeq_nx s2]
    rfl
  have a1 : (mAsg (mN oLst mNil) (gSet 2)) [some (.int c), some (.int 130), none, none, none, none] = .nx [some (.int c), some (.int 130), some (.lst true []), none, none, none] := by simp [oLst, szOk, szl]
  have a2 : (mAsg (mC (.int 0)) (gSet 3)) [some (.int c), some (.int 130), some (.lst true []), none, none, none] = .nx [some (.int c), some (.int 130), some (.lst true []), some (.int 0), none, none] := by simp
  have a3 : ∃ r : Int, (mIfS (mT (m2 oGe (mV 0) (m2 oPow (mC (.int 10)) (mC (.int 18))))) (mAsg (mV 0) (gSet 3)) mNx) [some (.int c), some (.int 130), some (.lst true []), some (.int 0), none, none] = .nx [some (.int c), some (.int 130), some (.lst true []), some (.int r), none, none] := by
    have p : ∀ ρ, oPow (.int 10) (.int 18) ρ = .ok (.int 1000000000000000000) ρ := fun ρ => by simp [oPow]
    by_cases hc : (1000000000000000000 : Int) ≤ c
    · exact ⟨c, by simp [p, hc, oGe]⟩
    · exact ⟨0, by simp [p, hc, oGe]⟩
  obtain ⟨r, a3⟩ := a3
  obtain ⟨ds, ρ', h1, h2, h3⟩ := key r
  refine ⟨ds, ?_, h1, h2⟩
  rw [mSeq_nx a1, mSeq_nx a2, mSeq_nx a3, h3]
  rfl
end Qk52
end

section
set_option linter.all false
set_option maxHeartbeats 4000000
namespace Qk52
open PySem L2 T
/-! ### a row of numbers -/
def Bv (g : Int) (v : D) : Prop := ∃ i : Int, v = .int i ∧ 0 ≤ i ∧ i ≤ 1009 * g + 2
theorem Dg.fz {d : D} (h : Dg d) : T.fz d = d := by obtain ⟨i, rfl, _⟩ := h; rfl
theorem Dg.fzs : ∀ {ds : List D}, (∀ d ∈ ds, Dg d) → T.fzs ds = ds
  | [], _ => rfl
  | d :: ds, h => by rw [fzs_cons, Dg.fz (h d List.mem_cons_self), Dg.fzs fun x hx => h x (List.mem_cons_of_mem _ hx)]
theorem atI_in {α : Type} {l : List α} {r : Int} (h0 : 0 ≤ r) (h1 : r < l.length) : ∃ d, d ∈ l ∧ atI l r = some d := by
  have hr : r.toNat < l.length := by omega
  refine ⟨l[r.toNat], List.getElem_mem hr, ?_⟩
  unfold atI ixN
  rw [if_pos h0, if_pos h1]
  simp [hr]
theorem put_new {ks : List Str} {vs : List D} {w : Str} {v : D} (hl : ks.length = vs.length) (hw : w ∉ ks) : putD ((ks.map (Sum.inr : Str → Key)).zip vs) (.inr w) v = ((ks ++ [w]).map (Sum.inr : Str → Key)).zip (vs ++ [v]) := by
  have h : ¬ ((((ks.map (Sum.inr : Str → Key)).zip vs).any fun kv => decide (kv.1 = .inr w)) = true) := by
    rw [List.any_eq_true]
    rintro ⟨⟨k, d⟩, hm, he⟩
    have he : k = .inr w := of_decide_eq_true he
    have hm := (List.of_mem_zip hm).1
    obtain ⟨x, hx, e⟩ := List.mem_map.mp hm
    rw [he] at e
    cases e
    exact hw hx
  unfold putD
  rw [if_neg h, List.map_append, List.zip_append (by rw [List.length_map]; exact hl)]
  rfl
theorem Bv.lf {g : Int} {v : D} (h : Bv g v) : T.lf v = true := by obtain ⟨i, rfl, _⟩ := h; rfl
theorem Bv.all {g : Int} {vs : List D} (h : ∀ v ∈ vs, Bv g v) : vs.all T.lf = true := List.all_eq_true.mpr fun v hv => (h v hv).lf
abbrev r1 : Ro → RS := mAsg (mN oInt (mCons (m2 oIx (mV 0) (m2 oAddA (m2 oMulI (mC (.int 23)) (mV 3)) (mV 8))) mNil)) (gSet 10)
abbrev rv : Ro → R D := (m2 oAddA (m2 oMulI (m2 oIx (mN oLst (mCons (mV 10) (mCons (m2 oMod (mN oInt (mCons (mV 10) mNil)) (mC (.int 60))) (mCons (m2 oFdiv (mV 10) (mC (.int 3))) (mCons (mC (.int 0)) mNil))))) (m2 oMod (mN oInt (mCons (m2 oFdiv (mV 10) (mC (.int 7))) mNil)) (mC (.int 4)))) (mV 1)) (m2 oMod (mN oInt (mCons (mV 10) mNil)) (mC (.int 3))))
abbrev r2 : Ro → RS := mSetK 7 (mV 9) rv
abbrev rG : D → Ro → Option Ro := gTupD 2 (gsCons (gSet 8) (gsCons (gSet 9) gsNil))
theorem rv_ok {a g x : Int} (hx : 0 ≤ x ∧ x < 1009) (hg : 0 < g) {o0 o2 o3 o4 o5 o6 o7 o8 o9 : Option D} : ∃ v, Bv g v ∧ rv [o0, some (.int g), o2, o3, o4, o5, o6, o7, o8, o9, some (.int x)] = .ok v [o0, some (.int g), o2, o3, o4, o5, o6, o7, o8, o9, some (.int x)] := by
  obtain ⟨hx0, hx1⟩ := hx
  have m0 : 0 ≤ x / 7 % 4 := Int.emod_nonneg _ (by decide)
  have m4 : x / 7 % 4 < 4 := Int.emod_lt_of_pos _ (by decide)
  obtain ⟨d, hd, ed⟩ := atI_in (l := [D.int x, .int (x % 60), .int (x / 3), .int 0]) m0 (by simpa using m4)
  have hy : ∃ y : Int, d = .int y ∧ 0 ≤ y ∧ y < 1009 := by
    simp only [List.mem_cons, List.not_mem_nil, or_false] at hd
    rcases hd with rfl | rfl | rfl | rfl
    · exact ⟨_, rfl, hx0, hx1⟩
    · exact ⟨_, rfl, by omega, by omega⟩
    · exact ⟨_, rfl, by omega, by omega⟩
    · exact ⟨_, rfl, by omega, by omega⟩
  obtain ⟨y, rfl, hy0, hy1⟩ := hy
  have q := mulOk_left (x := y) (y := g) (by omega)
  have b0 : 0 ≤ y * g := Int.mul_nonneg hy0 (by omega)
  have b1 : y * g ≤ 1009 * g := Int.mul_le_mul_of_nonneg_right (by omega) (by omega)
  refine ⟨.int (y * g + x % 3), ⟨_, rfl, by omega, by omega⟩, ?_⟩
  simp [oInt, log2_lit, ed, q, oAddA, szOk, szl]
theorem row_step {dg : List D} (hd : ∀ d ∈ dg, Dg d) (hl : dg.length = 130) {g : Int} (hg : 0 < g) {sz t : Int} (h0 : 0 ≤ 23 * sz + t) (h1 : 23 * sz + t < 130) {ws : List Str} {vs : List D} (hn : ws.length = vs.length) (hs : ws.length ≤ 100) (hv : ∀ v ∈ vs, Bv g v) {w : Str} (hw : w ∉ ws) {o2 o4 o5 o6 o8 o9 o10 : Option D} :
    ∃ v x, Bv g v ∧ gBody rG (mSeq r1 r2) (.tup [.int t, .str w]) [some (.lst false dg), some (.int g), o2, some (.int sz), o4, o5, o6, some (.dK true (ws.map Sum.inr) vs), o8, o9, o10] = .nx [some (.lst false dg), some (.int g), o2, some (.int sz), o4, o5, o6, some (.dK true ((ws ++ [w]).map Sum.inr) (vs ++ [v])), some (.int t), some (.str w), some (.int x)] := by
  obtain ⟨d, hm, ed⟩ := atI_in (l := dg) h0 (by rw [hl]; exact h1)
  obtain ⟨x, rfl, hx0, hx1⟩ := hd d hm
  have f := Dg.fzs hd
  have q := mulOk_left (x := 23) (y := sz) (by decide)
  obtain ⟨v, bv, ev⟩ := rv_ok (a := 0) ⟨hx0, hx1⟩ hg (o0 := some (.lst false dg)) (o2 := o2) (o3 := some (.int sz)) (o4 := o4) (o5 := o5) (o6 := o6) (o7 := some (.dK true (ws.map Sum.inr) vs)) (o8 := some (.int t)) (o9 := some (.str w))
  refine ⟨v, x, bv, ?_⟩
  have s1 : r1 [some (.lst false dg), some (.int g), o2, some (.int sz), o4, o5, o6, some (.dK true (ws.map Sum.inr) vs), some (.int t), some (.str w), o10] = .nx [some (.lst false dg), some (.int g), o2, some (.int sz), o4, o5, o6, some (.dK true (ws.map Sum.inr) vs), some (.int t), some (.str w), some (.int x)] := by
    simp [f, q, oAddA, ed, oInt]
  have p := put_new (v := v) hn hw
  have z : ((ws.map (Sum.inr : Str → Key)).zip vs).length < 1000 := by rw [List.length_zip, List.length_map]; omega
  have e1 : (((ws ++ [w]).map (Sum.inr : Str → Key)).zip (vs ++ [v])).map (·.1) = (ws ++ [w]).map Sum.inr := List.map_fst_zip (by simp [hn])
  have e2 : (((ws ++ [w]).map (Sum.inr : Str → Key)).zip (vs ++ [v])).map (·.2) = vs ++ [v] := List.map_snd_zip (by simp [hn])
  have s2 : r2 [some (.lst false dg), some (.int g), o2, some (.int sz), o4, o5, o6, some (.dK true (ws.map Sum.inr) vs), some (.int t), some (.str w), some (.int x)] = .nx [some (.lst false dg), some (.int g), o2, some (.int sz), o4, o5, o6, some (.dK true ((ws ++ [w]).map Sum.inr) (vs ++ [v])), some (.int t), some (.str w), some (.int x)] := by
    unfold r2 mSetK
    rw [ev]
    have c : (vs.all T.lf && T.lf v && decide (((ws.map (Sum.inr : Str → Key)).zip vs).length < 1000)) = true := by rw [Bv.all hv, bv.lf, decide_eq_true z]; rfl
    show (if (vs.all T.lf && T.lf v && decide (((ws.map (Sum.inr : Str → Key)).zip vs).length < 1000)) = true then RS.nx _ else RS.bad) = _
    rw [if_pos c, p, e1, e2]
    rfl
  show mSeq r1 r2 [some (.lst false dg), some (.int g), o2, some (.int sz), o4, o5, o6, some (.dK true (ws.map Sum.inr) vs), some (.int t), some (.str w), o10] = _
  rw [mSeq_nx s1, s2]
end Qk52
end

section
set_option linter.all false
set_option maxHeartbeats 4000000
namespace Qk52
open PySem L2 T
/-! ### the words, a row -/
def W1 : List Str := ["xheight", "quad", "up1", "up2", "up3", "down1", "down2", "sup1", "sup2", "sup3", "sub1", "sub2", "supdrop", "subdrop", "delim1", "delim2", "axis", "rule", "gap1", "gap2", "gap3", "gap4", "gap5"]
def W2 : List Str := ["scriptspace", "factor", "short", "empty", "thin", "medium", "thick", "baseline", "apart", "column", "indent"]
theorem w1_ok : Txt.words (("xheight quad up1 up2 up3 down1 down2 sup1 sup2 sup3 sub1 sub2 supdrop subdrop" : Str) ++ " delim1 delim2 axis rule gap1 gap2 gap3 gap4 gap5") = W1 := by decide +kernel
theorem w2_ok : Txt.words "scriptspace factor short empty thin medium thick baseline apart column indent" = W2 := by decide +kernel
theorem w1_nd : W1.Nodup := by decide +kernel
theorem w2_nd : W2.Nodup := by decide +kernel
theorem w1_len : W1.length = 23 := rfl
theorem w2_len : W2.length = 11 := rfl
theorem words_ok : F_law_words [] = .ok (.tup [.lst true (W1.map D.str), .lst true (W2.map D.str)]) [] := by
  unfold F_law_words m_law_words
  have e : start0 N_law_words [] = [none, none] := rfl
  rw [e]
  have l1 : (("xheight quad up1 up2 up3 down1 down2 sup1 sup2 sup3 sub1 sub2 supdrop subdrop" : Str).length) = 77 := by decide +kernel
  have l2 : ((" delim1 delim2 axis rule gap1 gap2 gap3 gap4 gap5" : Str).length) = 49 := by decide +kernel
  have l3 : (("scriptspace factor short empty thin medium thick baseline apart column indent" : Str).length) = 77 := by decide +kernel
  have l4 : ((("xheight quad up1 up2 up3 down1 down2 sup1 sup2 sup3 sub1 sub2 supdrop subdrop" : Str) ++ " delim1 delim2 axis rule gap1 gap2 gap3 gap4 gap5").length) = 126 := by decide +kernel
  simp [oAddA, oWords, szOk, szl, l1, l2, l3, l4, w1_ok, w2_ok]
theorem row_loop {dg : List D} (hd : ∀ d ∈ dg, Dg d) (hl : dg.length = 130) {g : Int} (hg : 0 < g) {sz : Int} (h0 : 0 ≤ sz) {o2 o4 o5 o6 : Option D} : ∀ (ws2 ws : List Str) (vs : List D) (o8 o9 o10 : Option D), (ws ++ ws2).Nodup → ws.length = vs.length → 23 * sz + ((ws.length + ws2.length : Nat) : Int) ≤ 130 → ws.length + ws2.length ≤ 100 → (∀ v ∈ vs, Bv g v) →
    ∃ vs' o8' o9' o10', vs'.length = ws.length + ws2.length ∧ (∀ v ∈ vs', Bv g v) ∧ loop (gBody rG (mSeq r1 r2)) (enumD ws.length (ws2.map D.str)) [some (.lst false dg), some (.int g), o2, some (.int sz), o4, o5, o6, some (.dK true (ws.map Sum.inr) vs), o8, o9, o10] = .nx [some (.lst false dg), some (.int g), o2, some (.int sz), o4, o5, o6, some (.dK true ((ws ++ ws2).map Sum.inr) vs'), o8', o9', o10']
  | [], ws, vs, o8, o9, o10, _, hn, _, _, hv => ⟨vs, o8, o9, o10, by simp [hn], hv, by simp [enumD, loop]⟩
  | w :: ws2, ws, vs, o8, o9, o10, nd, hn, hi, hs, hv => by
    rw [List.length_cons] at hi hs
    have hw : w ∉ ws := fun m => by
      have := (List.nodup_append.mp nd).2.2 w m w List.mem_cons_self
      exact this rfl
    obtain ⟨v, x, bv, e⟩ := row_step hd hl hg (sz := sz) (t := (ws.length : Nat)) (by omega) (by omega) hn (by omega) hv hw (o2 := o2) (o4 := o4) (o5 := o5) (o6 := o6) (o8 := o8) (o9 := o9) (o10 := o10)
    obtain ⟨vs', o8', o9', o10', h1, h2, h3⟩ := row_loop hd hl hg h0 ws2 (ws ++ [w]) (vs ++ [v]) (some (.int (ws.length : Nat))) (some (.str w)) (some (.int x)) (by rw [List.append_assoc]; exact nd) (by simp [hn]) (by rw [List.length_append]; simp; omega) (by rw [List.length_append]; simp; omega) fun y hy => by
      rcases List.mem_append.mp hy with q | q
      · exact hv y q
      · rw [List.mem_singleton] at q; rw [q]; exact bv
    refine ⟨vs', o8', o9', o10', by rw [h1, List.length_append]; simp; omega, h2, ?_⟩
    rw [List.append_assoc, List.length_append] at h3
    show loop (gBody rG (mSeq r1 r2)) (.tup [.int (ws.length : Nat), .str w] :: enumD (ws.length + 1) (ws2.map D.str)) _ = _
    rw [loop_nx e]
    exact h3
end Qk52
end

section
set_option linter.all false
set_option maxHeartbeats 4000000
namespace Qk52
open PySem L2 T
theorem fzs_strs (ws : List Str) : fzs (ws.map D.str) = ws.map D.str := by
  induction ws with
  | nil => rfl
  | cons w ws ih => rw [List.map_cons, fzs_cons, ih]; rfl
def rowO (vs : List D) : D := .dK true (W1.map Sum.inr) vs
abbrev z1 : Ro → RS := mAsg oDict0 (gSet 7)
abbrev z2 : Ro → RS := mFor (fun ρ => ((mCons (mV 5) mNil) ρ).bind oEnum) rG (mSeq r1 r2)
abbrev z3 : Ro → RS := mMut 2 fApp (mMv 7)
abbrev zB : Ro → RS := mSeq z1 (mSeq z2 z3)
theorem size_step {dg : List D} (hd : ∀ d ∈ dg, Dg d) (hl : dg.length = 130) {g : Int} (hg : 0 < g) {sz : Int} (h0 : 0 ≤ sz) (h3 : sz < 3) {rows : List D} (hr : rows.length ≤ 10) {o : Bool} {o3 o4 o6 o7 o8 o9 o10 : Option D} :
    ∃ vs o8' o9' o10', vs.length = 23 ∧ (∀ v ∈ vs, Bv g v) ∧ gBody (gSet 3) zB (.int sz) [some (.lst false dg), some (.int g), some (.lst true rows), o3, o4, some (.lst o (W1.map D.str)), o6, o7, o8, o9, o10] = .nx [some (.lst false dg), some (.int g), some (.lst true (rows ++ [rowO vs])), some (.int sz), o4, some (.lst false (W1.map D.str)), o6, none, o8', o9', o10'] := by
  obtain ⟨vs, o8', o9', o10', n1, n2, lp⟩ := row_loop hd hl hg h0 (o2 := some (.lst true rows)) (o4 := o4) (o5 := some (.lst false (W1.map D.str))) (o6 := o6) W1 [] [] o8 o9 o10 w1_nd rfl (by rw [w1_len]; simp; omega) (by rw [w1_len]; simp) (fun _ h => by simp at h)
  refine ⟨vs, o8', o9', o10', by rw [n1, w1_len]; rfl, n2, ?_⟩
  have s1 : z1 [some (.lst false dg), some (.int g), some (.lst true rows), some (.int sz), o4, some (.lst o (W1.map D.str)), o6, o7, o8, o9, o10] = .nx [some (.lst false dg), some (.int g), some (.lst true rows), some (.int sz), o4, some (.lst o (W1.map D.str)), o6, some (.dK true [] []), o8, o9, o10] := rfl
  have s2 : z2 [some (.lst false dg), some (.int g), some (.lst true rows), some (.int sz), o4, some (.lst o (W1.map D.str)), o6, some (.dK true [] []), o8, o9, o10] = .nx [some (.lst false dg), some (.int g), some (.lst true rows), some (.int sz), o4, some (.lst false (W1.map D.str)), o6, some (rowO vs), o8', o9', o10'] := by
    unfold z2 mFor
    simp only [mCons_app, mV5, mNil_app, bind_ok, fz_lst, fzs_strs, oEnum, bS_ok]
    exact lp
  have hz : rows.length < sizeLine := Nat.lt_of_lt_of_le (show rows.length < 1000 by omega) (szl (Nat.le_refl _))
  have s3 : z3 [some (.lst false dg), some (.int g), some (.lst true rows), some (.int sz), o4, some (.lst false (W1.map D.str)), o6, some (rowO vs), o8', o9', o10'] = .nx [some (.lst false dg), some (.int g), some (.lst true (rows ++ [rowO vs])), some (.int sz), o4, some (.lst false (W1.map D.str)), o6, none, o8', o9', o10'] := by
    unfold z3 mMut
    simp [fApp, hz]
  show zB [some (.lst false dg), some (.int g), some (.lst true rows), some (.int sz), o4, some (.lst o (W1.map D.str)), o6, o7, o8, o9, o10] = _
  unfold zB
  rw [mSeq_nx s1, mSeq_nx s2, s3]
theorem three_rows {dg : List D} (hd : ∀ d ∈ dg, Dg d) (hl : dg.length = 130) {g : Int} (hg : 0 < g) {o3 o4 o6 o7 o8 o9 o10 : Option D} : ∃ A B C o8' o9' o10', (A.length = 23 ∧ B.length = 23 ∧ C.length = 23) ∧ ((∀ v ∈ A, Bv g v) ∧ (∀ v ∈ B, Bv g v) ∧ ∀ v ∈ C, Bv g v) ∧
    (mFor (fun ρ => ((mCons (mC (.int 3)) mNil) ρ).bind oRange) (gSet 3) zB) [some (.lst false dg), some (.int g), some (.lst true []), o3, o4, some (.lst true (W1.map D.str)), o6, o7, o8, o9, o10] = .nx [some (.lst false dg), some (.int g), some (.lst true [rowO A, rowO B, rowO C]), some (.int 2), o4, some (.lst false (W1.map D.str)), o6, none, o8', o9', o10'] := by
  obtain ⟨A, p1, p2, p3, la, ha, ea⟩ := size_step hd hl hg (sz := 0) (by decide) (by decide) (rows := []) (by simp) (o := true) (o3 := o3) (o4 := o4) (o6 := o6) (o7 := o7) (o8 := o8) (o9 := o9) (o10 := o10)
  obtain ⟨B, q1, q2, q3, lb, hb, eb⟩ := size_step hd hl hg (sz := 1) (by decide) (by decide) (rows := [rowO A]) (by simp) (o := false) (o3 := some (.int 0)) (o4 := o4) (o6 := o6) (o7 := none) (o8 := p1) (o9 := p2) (o10 := p3)
  obtain ⟨C, t1, t2, t3, lc, hc, ec⟩ := size_step hd hl hg (sz := 2) (by decide) (by decide) (rows := [rowO A, rowO B]) (by simp) (o := false) (o3 := some (.int 1)) (o4 := o4) (o6 := o6) (o7 := none) (o8 := q1) (o9 := q2) (o10 := q3)
  refine ⟨A, B, C, t1, t2, t3, ⟨la, lb, lc⟩, ⟨ha, hb, hc⟩, ?_⟩
  have hin : inRng 3 = true := by decide
  have rg : rng 0 (3 : Int).toNat = [.int 0, .int 1, .int 2] := rfl
  unfold mFor
  simp only [mCons_app, mC_app, mNil_app, bind_ok, oRange, hin, if_true, bS_ok, rg]
  simp only [List.cons_append, List.nil_append] at ea eb ec
  rw [loop_nx ea, loop_nx eb, loop_nx ec]
  rfl
end Qk52
end

section
set_option linter.all false
set_option maxHeartbeats 4000000
namespace Qk52
open PySem L2 T
theorem put_fresh {acc : List (Key × D)} {k : Key} {d : D} (h : k ∉ acc.map (·.1)) : putD acc k d = acc ++ [(k, d)] := by
  have e : ¬ ((acc.any fun kv => decide (kv.1 = k)) = true) := by
    rw [List.any_eq_true]
    rintro ⟨kv, hm, he⟩
    exact h (List.mem_map.mpr ⟨kv, hm, of_decide_eq_true he⟩)
  unfold putD
  rw [if_neg e]
theorem merge_new : ∀ {prs acc : List (Key × D)}, ((acc ++ prs).map (·.1)).Nodup → mergeD acc prs = acc ++ prs
  | [], acc, _ => by simp [mergeD]
  | p :: prs, acc, h => by
    have hf : p.1 ∉ acc.map (·.1) := fun m => by
      rw [List.map_append, List.map_cons] at h
      exact (List.nodup_append.mp h).2.2 p.1 m p.1 List.mem_cons_self rfl
    have e : mergeD acc (p :: prs) = mergeD (putD acc p.1 p.2) prs := rfl
    rw [e, put_fresh hf, merge_new (by rw [List.append_assoc]; exact h), List.append_assoc]
    rfl
/-- the settings: a word and its number -/
def digAt (dg : List D) (t : Int) : Int := match atI dg t with
  | some (.int x) => x
  | _ => 0
theorem digAt_ok {dg : List D} (hd : ∀ d ∈ dg, Dg d) (hl : dg.length = 130) {t : Int} (h0 : 0 ≤ t) (h1 : t < 130) : atI dg t = some (.int (digAt dg t)) ∧ 0 ≤ digAt dg t ∧ digAt dg t < 1009 := by
  obtain ⟨d, hm, ed⟩ := atI_in (l := dg) h0 (by rw [hl]; exact h1)
  obtain ⟨x, rfl, hx0, hx1⟩ := hd d hm
  have e : digAt dg t = x := by unfold digAt; rw [ed]
  rw [e]
  exact ⟨ed, hx0, hx1⟩
def setV (dg : List D) (g : Int) : D → D
  | .tup [.int t, .str w] => .tup [.str w, .int (digAt dg (69 + t) % 900 * g)]
  | d => d
abbrev sTe : Ro → R D := (mN oTup (mCons (mV 9) (mCons (m2 oMulI (m2 oMod (mN oInt (mCons (m2 oIx (mV 0) (m2 oAddA (mC (.int 69)) (mV 8))) mNil)) (mC (.int 900))) (mV 1)) mNil)))
theorem sTe_ok {dg : List D} (hd : ∀ d ∈ dg, Dg d) (hl : dg.length = 130) {g : Int} {t : Int} (h0 : 0 ≤ t) (h1 : t < 61) {w : Str} {o2 o3 o4 o5 o6 o7 o10 : Option D} : sTe [some (.lst false dg), some (.int g), o2, o3, o4, o5, o6, o7, some (.int t), some (.str w), o10] = .ok (setV dg g (.tup [.int t, .str w])) [some (.lst false dg), some (.int g), o2, o3, o4, o5, o6, o7, some (.int t), some (.str w), o10] := by
  obtain ⟨ed, x0, x1⟩ := digAt_ok hd hl (t := 69 + t) (by omega) (by omega)
  have f := Dg.fzs hd
  have q := mulOk_mod (x := digAt dg (69 + t)) (y := g) (m := 900) (by decide) (by decide)
  simp [f, oAddA, ed, oInt, q, setV, szOk, szl]
theorem lcMap {g : D → Ro → Option Ro} {te : Ro → R D} {own : List Nat} {f : D → D} : ∀ (ds acc : List D) (ρ0 : Ro), (∀ d ∈ ds, ∃ ρ2 ρ4, g d ρ0 = some ρ2 ∧ te ρ2 = .ok (f d) ρ4 ∧ wipeR ρ4 own = ρ0) → acc.length + ds.length < 1000 →
    lcLoop g mYes te own ds acc ρ0 = .ok (.lst true (acc ++ ds.map f)) ρ0
  | [], acc, ρ0, _, _ => by simp [lcLoop]
  | d :: ds, acc, ρ0, h, hl => by
    rw [List.length_cons] at hl
    obtain ⟨ρ2, ρ4, e1, e2, e3⟩ := h d List.mem_cons_self
    have ih := lcMap (g := g) (te := te) (own := own) (f := f) ds (acc ++ [f d]) ρ0 (fun x hx => h x (List.mem_cons_of_mem _ hx)) (by rw [List.length_append]; simp; omega)
    have z : acc.length < sizeLine := Nat.lt_of_lt_of_le (show acc.length < 1000 by omega) (szl (Nat.le_refl _))
    simp [lcLoop, e1, mYes, e2, e3, z, ih]
end Qk52
end

section
set_option linter.all false
set_option maxHeartbeats 4000000
namespace Qk52
open PySem L2 T
theorem put_2 {p0 : Key × D} {k : Key} {v1 d : D} {rest : List (Key × D)} (h0 : p0.1 ≠ k) (hr : ∀ p ∈ rest, p.1 ≠ k) : putD (p0 :: (k, v1) :: rest) k d = p0 :: (k, d) :: rest := by
  have e : ((p0 :: (k, v1) :: rest).any fun kv => decide (kv.1 = k)) = true := by
    rw [List.any_eq_true]
    exact ⟨(k, v1), by simp, decide_eq_true rfl⟩
  have m : rest.map (fun kv => if kv.1 = k then (kv.1, d) else kv) = rest := by
    conv => rhs; rw [← List.map_id rest]
    exact List.map_congr_left fun p hp => if_neg (hr p hp)
  unfold putD
  rw [if_pos e, List.map_cons, List.map_cons, if_neg h0, m]
  simp
def sV (dg : List D) (g : Int) (t : Int) : D := .int (digAt dg (69 + t) % 900 * g)
def setVals (dg : List D) (g : Int) : List D := [sV dg g 0, sV dg g 1, sV dg g 2, sV dg g 3, sV dg g 4, sV dg g 5, sV dg g 6, sV dg g 7, sV dg g 8, sV dg g 9, sV dg g 10]
theorem set_list (dg : List D) (g : Int) : (enumD 0 (W2.map D.str)).map (setV dg g) = List.zipWith (fun w v => D.tup [.str w, v]) W2 (setVals dg g) := rfl
theorem set_prs (dg : List D) (g : Int) : prsD (fzs (List.zipWith (fun w v => D.tup [.str w, v]) W2 (setVals dg g))) = some ((W2.map (Sum.inr : Str → Key)).zip (setVals dg g)) := rfl
theorem set_merge (dg : List D) (g : Int) : mergeD [] ((W2.map (Sum.inr : Str → Key)).zip (setVals dg g)) = (W2.map (Sum.inr : Str → Key)).zip (setVals dg g) := by
  rw [merge_new]
  · rfl
  · have e : ((([] ++ (W2.map (Sum.inr : Str → Key)).zip (setVals dg g)) : List (Key × D)).map (·.1)) = W2.map (Sum.inr : Str → Key) := rfl
    rw [e]
    decide +kernel
theorem set_dict (dg : List D) (g : Int) (ρ : Ro) : oDictP [.lst true (List.zipWith (fun w v => D.tup [.str w, v]) W2 (setVals dg g))] ρ = .ok (.dK true (W2.map Sum.inr) (setVals dg g)) ρ := by
  unfold oDictP
  simp only [set_prs, set_merge]
  rfl
abbrev y1 : Ro → RS := (mAsg (mN oDictP (mCons (mLc (fun ρ => ((mCons (mV 6) mNil) ρ).bind oEnum) (gTupD 2 (gsCons (gSet 8) (gsCons (gSet 9) gsNil))) mYes sTe [8, 9]) mNil)) (gSet 4))
theorem mem_enum : ∀ {ws : List Str} {n : Nat} {d : D}, d ∈ enumD n (ws.map D.str) → ∃ (t : Nat) (w : Str), d = .tup [.int (t : Nat), .str w] ∧ n ≤ t ∧ t < n + ws.length
  | [], n, d, h => by simp [enumD] at h
  | w :: ws, n, d, h => by
    rw [List.map_cons, enumD, List.mem_cons] at h
    rcases h with rfl | h
    · exact ⟨n, w, rfl, Nat.le_refl _, by simp⟩
    · obtain ⟨t, w', e, h1, h2⟩ := mem_enum h
      exact ⟨t, w', e, by omega, by rw [List.length_cons]; omega⟩
theorem set_step {dg : List D} (hd : ∀ d ∈ dg, Dg d) (hl : dg.length = 130) {g : Int} {o2 o3 o4 o5 o7 o8 o9 o10 : Option D} : y1 [some (.lst false dg), some (.int g), o2, o3, o4, o5, some (.lst true (W2.map D.str)), o7, o8, o9, o10] = .nx [some (.lst false dg), some (.int g), o2, o3, some (.dK true (W2.map Sum.inr) (setVals dg g)), o5, some (.lst false (W2.map D.str)), o7, none, none, o10] := by
  have hm := lcMap (g := gTupD 2 (gsCons (gSet 8) (gsCons (gSet 9) gsNil))) (te := sTe) (own := [8, 9]) (f := setV dg g) (enumD 0 (W2.map D.str)) [] [some (.lst false dg), some (.int g), o2, o3, o4, o5, some (.lst false (W2.map D.str)), o7, none, none, o10] (fun d hm => by
    obtain ⟨t, w, rfl, h1, h2⟩ := mem_enum hm
    rw [w2_len] at h2
    refine ⟨[some (.lst false dg), some (.int g), o2, o3, o4, o5, some (.lst false (W2.map D.str)), o7, some (.int t), some (.str w), o10], [some (.lst false dg), some (.int g), o2, o3, o4, o5, some (.lst false (W2.map D.str)), o7, some (.int t), some (.str w), o10], by simp, sTe_ok hd hl (by omega) (by omega), rfl⟩) (by rw [enumD_len, List.length_map, w2_len]; simp)
  rw [set_list, List.nil_append] at hm
  unfold y1
  rw [mAsg_app, mN_app]
  simp only [mLc, mCons_app, mV6, mNil_app, bind_ok, fz_lst, fzs_strs, oEnum, wipeR, List.set_cons_succ, List.set_cons_zero]
  rw [hm]
  simp only [bind_ok, set_dict, bS_ok, gSet_app]
  rfl
end Qk52
end

section
set_option linter.all false
set_option maxHeartbeats 4000000
namespace Qk52
open PySem L2 T
def setVals2 (dg : List D) (g : Int) : List D := [sV dg g 0, .int (digAt dg 70 % 1001), sV dg g 2, sV dg g 3, sV dg g 4, sV dg g 5, sV dg g 6, sV dg g 7, sV dg g 8, sV dg g 9, sV dg g 10]
theorem put_factor (dg : List D) (g : Int) : putD ((W2.map (Sum.inr : Str → Key)).zip (setVals dg g)) (.inr "factor") (.int (digAt dg 70 % 1001)) = (W2.map (Sum.inr : Str → Key)).zip (setVals2 dg g) := by
  have hr : ∀ p ∈ ((W2.drop 2).map (Sum.inr : Str → Key)).zip ((setVals dg g).drop 2), p.1 ≠ (.inr "factor" : Key) := fun p hp e => by
    have h1 : p.1 ∈ (W2.drop 2).map (Sum.inr : Str → Key) := (List.of_mem_zip (a := p.1) (b := p.2) hp).1
    obtain ⟨x, hx, ex⟩ := List.mem_map.mp h1
    have ex : x = "factor" := Sum.inr.inj (ex.trans e)
    rw [ex] at hx
    exact absurd hx (show ¬ (("factor" : Str) ∈ W2.drop 2) by decide +kernel)
  have h0 : ((.inr "scriptspace" : Key), sV dg g 0).1 ≠ (.inr "factor" : Key) := by
    show (.inr "scriptspace" : Key) ≠ .inr "factor"
    decide +kernel
  exact put_2 (v1 := sV dg g 1) h0 hr
abbrev y2 : Ro → RS := mSetK 4 (mC (.str "factor")) (m2 oMod (mN oInt (mCons (m2 oIx (mV 0) (mC (.int 70))) mNil)) (mC (.int 1001)))
theorem setVals_lf (dg : List D) (g : Int) : (setVals dg g).all T.lf = true := rfl
theorem factor_step {dg : List D} (hd : ∀ d ∈ dg, Dg d) (hl : dg.length = 130) {g : Int} {o1 o2 o3 o5 o6 o7 o8 o9 o10 : Option D} : y2 [some (.lst false dg), o1, o2, o3, some (.dK true (W2.map Sum.inr) (setVals dg g)), o5, o6, o7, o8, o9, o10] = .nx [some (.lst false dg), o1, o2, o3, some (.dK true (W2.map Sum.inr) (setVals2 dg g)), o5, o6, o7, o8, o9, o10] := by
  obtain ⟨ed, x0, x1⟩ := digAt_ok hd hl (t := 70) (by decide) (by decide)
  have f := Dg.fzs hd
  have ev : (m2 oMod (mN oInt (mCons (m2 oIx (mV 0) (mC (.int 70))) mNil)) (mC (.int 1001))) [some (.lst false dg), o1, o2, o3, some (.dK true (W2.map Sum.inr) (setVals dg g)), o5, o6, o7, o8, o9, o10] = .ok (.int (digAt dg 70 % 1001)) [some (.lst false dg), o1, o2, o3, some (.dK true (W2.map Sum.inr) (setVals dg g)), o5, o6, o7, o8, o9, o10] := by
    simp [f, ed, oInt]
  have p := put_factor dg g
  have c : ((setVals dg g).all T.lf && T.lf (.int (digAt dg 70 % 1001)) && decide (((W2.map (Sum.inr : Str → Key)).zip (setVals dg g)).length < 1000)) = true := by
    rw [setVals_lf]
    rfl
  unfold y2 mSetK
  rw [ev]
  show (if ((setVals dg g).all T.lf && T.lf (.int (digAt dg 70 % 1001)) && decide (((W2.map (Sum.inr : Str → Key)).zip (setVals dg g)).length < 1000)) = true then RS.nx _ else RS.bad) = _
  rw [if_pos c, p]
  rfl
def rowF (vs : List D) : D := .dK false (W1.map Sum.inr) vs
theorem Bv.fzs {g : Int} : ∀ {vs : List D}, (∀ v ∈ vs, Bv g v) → T.fzs vs = vs
  | [], _ => rfl
  | v :: vs, h => by
    obtain ⟨i, rfl, _⟩ := h v List.mem_cons_self
    rw [fzs_cons, Bv.fzs fun x hx => h x (List.mem_cons_of_mem _ hx)]
    rfl
theorem fz_row {g : Int} {vs : List D} (h : ∀ v ∈ vs, Bv g v) : T.fz (rowO vs) = rowF vs := by
  show D.dK false (W1.map Sum.inr) (T.fzs vs) = _
  rw [Bv.fzs h]
  rfl
def wrld (A B C S : List D) : D := .dK true [.inr "numbers", .inr "settings"] [.lst false [rowF A, rowF B, rowF C], .dK false (W2.map Sum.inr) S]
theorem disp_ok {g : Int} {A B C : List D} (ha : ∀ v ∈ A, Bv g v) (hb : ∀ v ∈ B, Bv g v) (hc : ∀ v ∈ C, Bv g v) {dg : List D} {o0 o1 o3 o5 o6 o7 o8 o9 o10 : Option D} : (mDisp ["numbers", "settings"] (mCons (mMv 2) (mCons (mMv 4) mNil))) [o0, o1, some (.lst true [rowO A, rowO B, rowO C]), o3, some (.dK true (W2.map Sum.inr) (setVals2 dg g)), o5, o6, o7, o8, o9, o10] = .ok (wrld A B C (setVals2 dg g)) [o0, o1, none, o3, none, o5, o6, o7, o8, o9, o10] := by
  have k : kdsD ["numbers", "settings"] [.lst true [rowO A, rowO B, rowO C], .dK true (W2.map Sum.inr) (setVals2 dg g)] = [(.inr "numbers", .lst false [rowF A, rowF B, rowF C]), (.inr "settings", .dK false (W2.map Sum.inr) (setVals2 dg g))] := by
    have e : T.fzs [.lst true [rowO A, rowO B, rowO C], .dK true (W2.map Sum.inr) (setVals2 dg g)] = [.lst false [rowF A, rowF B, rowF C], .dK false (W2.map Sum.inr) (setVals2 dg g)] := by
      rw [fzs_cons, fzs_cons, fzs_nil, fz_lst, fzs_cons, fzs_cons, fzs_cons, fzs_nil, fz_row ha, fz_row hb, fz_row hc]
      rfl
    unfold kdsD
    rw [e, merge_new]
    · rfl
    · show ([(Sum.inr "numbers" : Key), Sum.inr "settings"] : List Key).Nodup
      decide +kernel
  unfold mDisp
  simp only [mCons_app, mMv2, mMv4, mNil_app, bind_ok]
  rw [if_pos (show (["numbers", "settings"] : List Str).length = [D.lst true [rowO A, rowO B, rowO C], D.dK true (W2.map Sum.inr) (setVals2 dg g)].length from rfl), k]
  rfl
theorem world {dg : List D} (hd : ∀ d ∈ dg, Dg d) (hl : dg.length = 130) {g : Int} (hg : 0 < g) : ∃ A B C, (A.length = 23 ∧ B.length = 23 ∧ C.length = 23) ∧ ((∀ v ∈ A, Bv g v) ∧ (∀ v ∈ B, Bv g v) ∧ ∀ v ∈ C, Bv g v) ∧ F_law_world [.lst false dg, .int g] = .ok (wrld A B C (setVals2 dg g)) [] := by
  obtain ⟨A, B, C, o8, o9, o10, hn, hv, e3⟩ := three_rows hd hl hg (o3 := none) (o4 := none) (o6 := some (.lst true (W2.map D.str))) (o7 := none) (o8 := none) (o9 := none) (o10 := none)
  refine ⟨A, B, C, hn, hv, ?_⟩
  unfold F_law_world m_law_world
  have e : start0 N_law_world [.lst false dg, .int g] = [some (.lst false dg), some (.int g), none, none, none, none, none, none, none, none, none] := rfl
  rw [e]
  have s1 : (mAsg (mCall0 F_law_words) (gTupD 2 (gsCons (gSet 5) (gsCons (gSet 6) gsNil)))) [some (.lst false dg), some (.int g), none, none, none, none, none, none, none, none, none] = .nx [some (.lst false dg), some (.int g), none, none, none, some (.lst true (W1.map D.str)), some (.lst true (W2.map D.str)), none, none, none, none] := by
    rw [mAsg_app]
    unfold mCall0
    rw [words_ok]
    rfl
  have s2 : (mAsg (mN oLst mNil) (gSet 2)) [some (.lst false dg), some (.int g), none, none, none, some (.lst true (W1.map D.str)), some (.lst true (W2.map D.str)), none, none, none, none] = .nx [some (.lst false dg), some (.int g), some (.lst true []), none, none, some (.lst true (W1.map D.str)), some (.lst true (W2.map D.str)), none, none, none, none] := by
    have z : szOk 0 = true := decide_eq_true (szl (by omega))
    rw [mAsg_app, mN_app, mNil_app, bind_ok]
    unfold oLst
    rw [List.length_nil, z]
    rfl
  rw [mSeq_nx s1, mSeq_nx s2]
  change toRF [] (mSeq (mFor _ (gSet 3) zB) (mSeq y1 (mSeq y2 _)) _) = _
  rw [mSeq_nx e3, mSeq_nx (set_step hd hl), mSeq_nx (factor_step hd hl), mRet_app, disp_ok hv.1 hv.2.1 hv.2.2]
  rfl
end Qk52
end

section
set_option linter.all false
set_option maxHeartbeats 4000000
namespace Qk52
open PySem L2 T
theorem toPy_int {i : Int} : toPy (.int i) = some (.int i) := rfl
theorem is_integer (i : Int) : F_is_integer [.int i] = .ok (.bl true) [] := by
  unfold F_is_integer m_is_integer
  have e : start0 N_is_integer [.int i] = [some (.int i)] := rfl
  rw [e]
  have h1 : isOne kitCs (.b "int") (.ty "int") = some true := by decide +kernel
  have h2 : isOne kitCs (.b "int") (.ty "bool") = some false := by decide +kernel
  simp [oIsi, tyT, okT, h1, h2, oNot]
theorem is_between (i a b : Int) (h1 : a ≤ i) (h2 : i ≤ b) : F_is_between [.int i, .int a, .int b] = .ok (.bl true) [] := by
  unfold F_is_between m_is_between
  have e : start0 N_is_between [.int i, .int a, .int b] = [some (.int i), some (.int a), some (.int b)] := rfl
  rw [e]
  simp [mCallF, mFill, fill, is_integer, afterC, pickL, putBack, mCh, leaf, chEnd, h1, h2]
theorem is_tuple (ds : List D) (n : Nat) (h : ds.length = n) : F_is_tuple [.tup ds, .int n] = .ok (.bl true) [] := by
  unfold F_is_tuple m_is_tuple
  have e : start0 N_is_tuple [.tup ds, .int n] = [some (.tup ds), some (.int n)] := rfl
  rw [e]
  have h1 : isOne kitCs (.b "tuple") (.ty "tuple") = some true := by decide +kernel
  simp [oIsi, tyT, okT, h1, fzs_len, h, oEq, toPy_int, flat, PyData.depth, PyData.eqv]
def isNon : RF → Bool
  | .ok .non [] => true
  | _ => false
theorem isNon_ok {r : RF} (h : isNon r = true) : r = .ok .non [] := by
  unfold isNon at h
  split at h
  · rfl
  · cases h
def face0 : D := .tup [.dK false [] [], .dK false [] [], .bl false]
def fam0 : D := .lst false [.tup [face0, face0, face0]]
theorem check_families : F_check_families [fam0] = .ok .non [] := isNon_ok (by decide +kernel)
/-! ### check_words -/
def mostOf (w : Str) : Int := if w = "factor" then 1000 else 10 ^ 60
theorem most_of (w : Str) : F_most_of [.str w] = .ok (.int (mostOf w)) [] := by
  unfold F_most_of m_most_of mostOf
  have e : start0 N_most_of [.str w] = [some (.str w)] := rfl
  rw [e]
  by_cases h : w = "factor"
  · simp [oEq, toPy, flat, PyData.depth, PyData.eqv, h, k_MOST_FACTOR]
  · simp [oEq, toPy, flat, PyData.depth, PyData.eqv, h, k_MOST]
abbrev cwB : Ro → RS := (mIfS (mOr (mT (m2 (oInD (!·)) (mV 4) (mV 0))) (mNot (mT (mCallF [none, none, none] [] [] F_is_between (mCons (m2 oIxA (mV 0) (mV 4)) (mCons (mC (.int 0)) (mCons (mCallF [none] [] [] F_most_of (mCons (mV 4) mNil)) mNil))))))) (fun _ => .bad) mNx)
theorem cw_step {ks : List Key} {vs : List D} (hf : fzs vs = vs) {w : Str} {i : Int} (hv : valD (ks.zip vs) (.inr w) = some (.int i)) (h0 : 0 ≤ i) (h1 : i ≤ mostOf w) {o1 o2 o3 o4 : Option D} : gBody (gSet 4) cwB (.str w) [some (.dK false ks vs), o1, o2, o3, o4] = .nx [some (.dK false ks vs), o1, o2, o3, some (.str w)] := by
  have f : T.fz (.dK false ks vs) = .dK false ks vs := by
    show D.dK false ks (fzs vs) = _
    rw [hf]
  have a : ∀ ρ, oInD (!·) (.str w) (.dK false ks vs) ρ = .ok (.bl false) ρ := fun ρ => by
    unfold oInD
    simp [keyD, hv]
  have b : ∀ ρ, oIxA (.dK false ks vs) (.str w) ρ = .ok (.int i) ρ := fun ρ => by
    unfold oIxA
    simp [keyD, hv]
  have c := is_between i 0 (mostOf w) h0 h1
  have m := most_of w
  generalize D.dK false ks vs = v at *
  simp [gBody, f, a, b, mCallF, mFill, fill, m, c, afterC, pickL, putBack]
end Qk52
end

section
set_option linter.all false
set_option maxHeartbeats 4000000
namespace Qk52
open PySem L2 T
theorem cw_loop {ks : List Key} {vs : List D} (hf : fzs vs = vs) {o1 o2 o3 : Option D} : ∀ (l : List Str) (o4 : Option D), (∀ w ∈ l, ∃ i : Int, valD (ks.zip vs) (.inr w) = some (.int i) ∧ 0 ≤ i ∧ i ≤ mostOf w) → ∃ o4', loop (gBody (gSet 4) cwB) (l.map D.str) [some (.dK false ks vs), o1, o2, o3, o4] = .nx [some (.dK false ks vs), o1, o2, o3, o4']
  | [], o4, _ => ⟨o4, rfl⟩
  | w :: l, o4, h => by
    obtain ⟨i, hv, h0, h1⟩ := h w List.mem_cons_self
    obtain ⟨o4', ih⟩ := cw_loop hf l (some (.str w)) fun x hx => h x (List.mem_cons_of_mem _ hx)
    refine ⟨o4', ?_⟩
    rw [List.map_cons, loop_nx (cw_step hf hv h0 h1)]
    exact ih
theorem oNe_int {i j : Int} {ρ : Ro} : oNe (.int i) (.int j) ρ = .ok (.bl (!decide (i = j))) ρ := by
  unfold oNe
  simp only [toPy]
  have f : T.flat (.int i) = true := by unfold T.flat; rw [PyData.depth]; rfl
  rw [f]
  rw [PyData.eqv]
  · simp
    rfl
theorem check_words {ks : List Key} {vs : List D} (hf : fzs vs = vs) {ws : List Str} (hl : (ks.zip vs).length = ws.length) (h : ∀ w ∈ ws, ∃ i : Int, valD (ks.zip vs) (.inr w) = some (.int i) ∧ 0 ≤ i ∧ i ≤ mostOf w) (p q : D) : F_check_words [.dK false ks vs, .tup (ws.map D.str), p, q] = .ok .non [] := by
  unfold F_check_words m_check_words
  have e : start0 N_check_words [.dK false ks vs, .tup (ws.map D.str), p, q] = [some (.dK false ks vs), some (.tup (ws.map D.str)), some p, some q, none] := rfl
  rw [e]
  have f : T.fz (.dK false ks vs) = .dK false ks vs := by
    show D.dK false ks (fzs vs) = _
    rw [hf]
  have h1 : isOne kitCs (.b "dict") (.ty "dict") = some true := by decide +kernel
  have ty : tyT (.dK false ks vs) = some (.b "dict") := rfl
  have ln : ∀ ρ, oLenD [.dK false ks vs] ρ = .ok (.int (ws.length : Nat)) ρ := fun ρ => by
    unfold oLenD
    simp only [hl]
  obtain ⟨o4, lp⟩ := cw_loop hf (o1 := some (.tup (ws.map D.str))) (o2 := some p) (o3 := some q) ws none h
  have s1 : (mIfS (mOr (mNot (mT (mN (oIsi kitCs) (mCons (mV 0) (mCons (mC (.ty "dict")) mNil))))) (mT (m2 oNe (mN oLenD (mCons (mV 0) mNil)) (mN oLenS (mCons (mV 1) mNil))))) (fun _ => .bad) mNx) [some (.dK false ks vs), some (.tup (ws.map D.str)), some p, some q, none] = .nx [some (.dK false ks vs), some (.tup (ws.map D.str)), some p, some q, none] := by
    generalize D.dK false ks vs = v at *
    simp [f, oIsi, ty, okT, h1, ln, fzs_strs, oLenS, oNe_int]
  have s2 : (mFor (fun ρ => ((mV 1) ρ).bind oSeq) (gSet 4) cwB) [some (.dK false ks vs), some (.tup (ws.map D.str)), some p, some q, none] = .nx [some (.dK false ks vs), some (.tup (ws.map D.str)), some p, some q, o4] := by
    unfold mFor
    have fs := fzs_strs ws
    have g : (mV 1) [some (.dK false ks vs), some (.tup (ws.map D.str)), some p, some q, none] = .ok (.tup (ws.map D.str)) [some (.dK false ks vs), some (.tup (ws.map D.str)), some p, some q, none] := by
      rw [mV1, fz_tup, fs]
    simp only [g, bind_ok, oSeq, fs, bS_ok]
    exact lp
  rw [mSeq_nx s1, s2]
  rfl
/-! a row of numbers has all its words -/
theorem val_row : ∀ {ws : List Str} {vs : List D} {w : Str}, ws.length = vs.length → w ∈ ws → ∃ v, v ∈ vs ∧ valD ((ws.map (Sum.inr : Str → Key)).zip vs) (.inr w) = some v
  | [], _, _, _, h => by simp at h
  | _ :: _, [], _, h, _ => by simp at h
  | x :: ws, v :: vs, w, hl, hm => by
    by_cases e : x = w
    · subst e
      exact ⟨v, List.mem_cons_self, by simp [valD]⟩
    · rcases List.mem_cons.mp hm with h | h
      · exact absurd h.symm e
      · obtain ⟨v', h1, h2⟩ := val_row (ws := ws) (vs := vs) (Nat.succ.inj hl) h
        refine ⟨v', List.mem_cons_of_mem _ h1, ?_⟩
        unfold valD at h2 ⊢
        rw [List.map_cons, List.zip_cons_cons, List.find?_cons_of_neg]
        · exact h2
        · simp [e]
theorem row_words {g : Int} (hg : g ≤ 10 ^ 50) {vs : List D} (hn : vs.length = 23) (hv : ∀ v ∈ vs, Bv g v) (p q : D) : F_check_words [rowF vs, .tup (W1.map D.str), p, q] = .ok .non [] := by
  refine check_words (Bv.fzs hv) ?_ (fun w hw => ?_) p q
  · rw [List.length_zip, List.length_map, hn]; rfl
  · obtain ⟨v, hm, e⟩ := val_row (vs := vs) (by rw [hn]; rfl) hw
    obtain ⟨i, rfl, h0, h1⟩ := hv v hm
    refine ⟨i, e, h0, ?_⟩
    have nf : w ≠ "factor" := fun z => by rw [z] at hw; exact absurd hw (by decide +kernel)
    unfold mostOf
    rw [if_neg nf]
    omega
end Qk52
end

section
set_option linter.all false
set_option maxHeartbeats 4000000
namespace Qk52
open PySem L2 T
theorem sv_Bv {dg : List D} (hd : ∀ d ∈ dg, Dg d) (hl : dg.length = 130) {g : Int} (hg : 0 < g) {t : Int} (h0 : 0 ≤ t) (h1 : t < 61) : Bv g (sV dg g t) := by
  obtain ⟨_, x0, x1⟩ := digAt_ok hd hl (t := 69 + t) (by omega) (by omega)
  have m0 : 0 ≤ digAt dg (69 + t) % 900 := Int.emod_nonneg _ (by decide)
  have m1 : digAt dg (69 + t) % 900 < 900 := Int.emod_lt_of_pos _ (by decide)
  have b0 : 0 ≤ digAt dg (69 + t) % 900 * g := Int.mul_nonneg m0 (by omega)
  have b1 : digAt dg (69 + t) % 900 * g ≤ 900 * g := Int.mul_le_mul_of_nonneg_right (by omega) (by omega)
  exact ⟨_, rfl, b0, by omega⟩
theorem fac_b {dg : List D} : 0 ≤ digAt dg 70 % 1001 ∧ digAt dg 70 % 1001 ≤ 1000 := ⟨Int.emod_nonneg _ (by decide), by have := Int.emod_lt_of_pos (digAt dg 70) (show (0 : Int) < 1001 by decide); omega⟩
theorem sv2_Bv {dg : List D} (hd : ∀ d ∈ dg, Dg d) (hl : dg.length = 130) {g : Int} (hg : 0 < g) : ∀ v ∈ setVals2 dg g, Bv g v := by
  intro v hv
  unfold setVals2 at hv
  simp only [List.mem_cons, List.not_mem_nil, or_false] at hv
  rcases hv with rfl | rfl | rfl | rfl | rfl | rfl | rfl | rfl | rfl | rfl | rfl
  · exact sv_Bv hd hl hg (by decide) (by decide)
  · have := fac_b (dg := dg)
    exact ⟨_, rfl, this.1, by omega⟩
  all_goals exact sv_Bv hd hl hg (by decide) (by decide)
theorem set_words {dg : List D} (hd : ∀ d ∈ dg, Dg d) (hl : dg.length = 130) {g : Int} (hg : 0 < g) (h50 : g ≤ 10 ^ 50) (p q : D) : F_check_words [.dK false (W2.map Sum.inr) (setVals2 dg g), .tup (W2.map D.str), p, q] = .ok .non [] := by
  refine check_words (Bv.fzs (sv2_Bv hd hl hg)) rfl (fun w hw => ?_) p q
  by_cases nf : w = "factor"
  · subst nf
    refine ⟨digAt dg 70 % 1001, ?_, fac_b.1, ?_⟩
    · have h0 : ¬ ((.inr "scriptspace" : Key) = .inr "factor") := by decide +kernel
      have e : (W2.map (Sum.inr : Str → Key)).zip (setVals2 dg g) = (.inr "scriptspace", sV dg g 0) :: (.inr "factor", .int (digAt dg 70 % 1001)) :: ((W2.drop 2).map (Sum.inr : Str → Key)).zip ((setVals2 dg g).drop 2) := rfl
      rw [e]
      unfold valD
      rw [List.find?_cons_of_neg (by simpa using h0), List.find?_cons_of_pos (by simp)]
      rfl
    · unfold mostOf
      rw [if_pos rfl]
      exact fac_b.2
  · obtain ⟨v, hm, e⟩ := val_row (ws := W2) (vs := setVals2 dg g) rfl hw
    obtain ⟨i, rfl, h0, h1⟩ := sv2_Bv hd hl hg v hm
    refine ⟨i, e, h0, ?_⟩
    unfold mostOf
    rw [if_neg nf]
    omega
/-! ### Fonts -/
abbrev fsFonts : List Str := ["family_rows", "number_rows", "setting_rows", "skew_name"]
def fontsD (o : Bool) (A B C S : List D) : D := .ins o 5 fsFonts [.lst o [.tup [face0, face0, face0]], .tup [rowF A, rowF B, rowF C], .dK o (W2.map Sum.inr) S, .non]
theorem wds : k_WORDS = .tup (W1.map D.str) := rfl
theorem sts : k_SETTINGS = .tup (W2.map D.str) := rfl
end Qk52
end

section
set_option linter.all false
set_option maxHeartbeats 4000000
namespace Qk52
open PySem L2 T
abbrev wB : Ro → RS := (mDrop (mCallF [none, none, none, none] [] [] F_check_words (mCons (mV 6) (mCons (mC k_WORDS) (mCons (mC (.str "numbers")) (mCons (mN oTup (mCons (mV 5) mNil)) mNil))))))
abbrev wG : D → Ro → Option Ro := gTupD 2 (gsCons (gSet 5) (gsCons (gSet 6) gsNil))
theorem fz_rowF {g : Int} {vs : List D} (h : ∀ v ∈ vs, Bv g v) : T.fz (rowF vs) = rowF vs := by
  show D.dK false (W1.map Sum.inr) (T.fzs vs) = _
  rw [Bv.fzs h]
  rfl
theorem w_step {g : Int} (hg : g ≤ 10 ^ 50) {vs : List D} (hn : vs.length = 23) (hv : ∀ v ∈ vs, Bv g v) (t : Int) {o0 o1 o2 o3 o4 o5 o6 o7 o8 : Option D} : gBody wG wB (.tup [.int t, rowF vs]) [o0, o1, o2, o3, o4, o5, o6, o7, o8] = .nx [o0, o1, o2, o3, o4, some (.int t), some (rowF vs), o7, o8] := by
  have f := fz_rowF hv
  have c := row_words hg hn hv (.str "numbers") (.tup [.int t])
  rw [← wds] at c
  generalize rowF vs = v at *
  simp [gBody, f, mCallF, mFill, fill, c, afterC, pickL, putBack, szOk, szl]
theorem nf1 : ¬ (("family_rows" : Str) = "number_rows") := by decide +kernel
theorem nf2 : ¬ (("family_rows" : Str) = "setting_rows") := by decide +kernel
theorem nf3 : ¬ (("family_rows" : Str) = "skew_name") := by decide +kernel
theorem nf4 : ¬ (("number_rows" : Str) = "setting_rows") := by decide +kernel
theorem nf5 : ¬ (("number_rows" : Str) = "skew_name") := by decide +kernel
theorem nf6 : ¬ (("setting_rows" : Str) = "skew_name") := by decide +kernel
/-! the loop over the three rows -/
theorem w_loop {g : Int} (hg : g ≤ 10 ^ 50) {A B C : List D} (hn : A.length = 23 ∧ B.length = 23 ∧ C.length = 23) (hv : (∀ v ∈ A, Bv g v) ∧ (∀ v ∈ B, Bv g v) ∧ ∀ v ∈ C, Bv g v) {o0 o1 o3 o4 o5 o6 o7 o8 : Option D} :
    (mFor (fun ρ => ((mCons (mV 2) mNil) ρ).bind oEnumT) wG wB) [o0, o1, some (.tup [rowF A, rowF B, rowF C]), o3, o4, o5, o6, o7, o8] = .nx [o0, o1, some (.tup [rowF A, rowF B, rowF C]), o3, o4, some (.int 2), some (rowF C), o7, o8] := by
  have fa := fz_rowF hv.1
  have fb := fz_rowF hv.2.1
  have fc := fz_rowF hv.2.2
  have e1 := w_step hg hn.1 hv.1 0 (o0 := o0) (o1 := o1) (o2 := some (.tup [rowF A, rowF B, rowF C])) (o3 := o3) (o4 := o4) (o5 := o5) (o6 := o6) (o7 := o7) (o8 := o8)
  have e2 := w_step hg hn.2.1 hv.2.1 1 (o0 := o0) (o1 := o1) (o2 := some (.tup [rowF A, rowF B, rowF C])) (o3 := o3) (o4 := o4) (o5 := some (.int 0)) (o6 := some (rowF A)) (o7 := o7) (o8 := o8)
  have e3 := w_step hg hn.2.2 hv.2.2 2 (o0 := o0) (o1 := o1) (o2 := some (.tup [rowF A, rowF B, rowF C])) (o3 := o3) (o4 := o4) (o5 := some (.int 1)) (o6 := some (rowF B)) (o7 := o7) (o8 := o8)
  generalize rowF A = a at *
  generalize rowF B = b at *
  generalize rowF C = c at *
  unfold mFor
  simp only [mCons_app, mV2, mNil_app, bind_ok, fz_tup, fzs_cons, fzs_nil, fa, fb, fc, oEnumT, bS_ok]
  show loop (gBody wG wB) [.tup [.int 0, a], .tup [.int 1, b], .tup [.int 2, c]] _ = _
  rw [loop_nx e1, loop_nx e2, loop_nx e3]
  rfl
end Qk52
end

section
set_option linter.all false
set_option maxHeartbeats 4000000
namespace Qk52
open PySem L2 T
abbrev f1 : Ro → RS := mSetF [5] 0 "family_rows" (mLc (fun ρ => ((mV 1) ρ).bind oSeq) (gSet 7) mYes (mN oTuple (mCons (mLc (fun ρ => ((mV 7) ρ).bind oSeq) (gSet 8) mYes (mCallF [none] [] [] F_copied_face (mCons (mV 8) mNil)) [8]) mNil)) [7])
abbrev f2 : Ro → RS := mSetF [5] 0 "number_rows" (mN oTuple (mCons (mLc (fun ρ => ((mV 2) ρ).bind oSeq) (gSet 6) mYes (mN oDictC (mCons (mV 6) mNil)) [6]) mNil))
abbrev f3 : Ro → RS := mSetF [5] 0 "setting_rows" (mN oDictC (mCons (mV 3) mNil))
abbrev f4 : Ro → RS := mSetF [5] 0 "skew_name" (mV 4)
theorem copied : F_copied_face [face0] = .ok (.tup [.dK true [] [], .dK true [] [], .bl false]) [] := by
  unfold F_copied_face m_copied_face
  have e : start0 N_copied_face [face0] = [some face0] := rfl
  rw [e]
  rfl
theorem fam_rows {o2 o3 o4 o5 o6 : Option D} (s : D) : (mLc (fun ρ => ((mV 1) ρ).bind oSeq) (gSet 7) mYes (mN oTuple (mCons (mLc (fun ρ => ((mV 7) ρ).bind oSeq) (gSet 8) mYes (mCallF [none] [] [] F_copied_face (mCons (mV 8) mNil)) [8]) mNil)) [7]) [some s, some fam0, o2, o3, o4, o5, o6, none, none] = .ok (.lst true [.tup [face0, face0, face0]]) [some s, some fam0, o2, o3, o4, o5, o6, none, none] := by
  have f : T.fz face0 = face0 := rfl
  have inner : ∀ o7' : Option D, (mLc (fun ρ => ((mV 7) ρ).bind oSeq) (gSet 8) mYes (mCallF [none] [] [] F_copied_face (mCons (mV 8) mNil)) [8]) [some s, some fam0, o2, o3, o4, o5, o6, some (.tup [face0, face0, face0]), o7'] = .ok (.lst true [.tup [.dK true [] [], .dK true [] [], .bl false], .tup [.dK true [] [], .dK true [] [], .bl false], .tup [.dK true [] [], .dK true [] [], .bl false]]) [some s, some fam0, o2, o3, o4, o5, o6, some (.tup [face0, face0, face0]), none] := by
    intro o7'
    have c := copied
    generalize face0 = a at *
    have hm := lcMap (g := gSet 8) (te := mCallF [none] [] [] F_copied_face (mCons (mV 8) mNil)) (own := [8]) (f := fun _ => .tup [.dK true [] [], .dK true [] [], .bl false]) [a, a, a] [] [some s, some fam0, o2, o3, o4, o5, o6, some (.tup [a, a, a]), none] (fun d hd => by
      have e : d = a := by simpa using hd
      subst e
      refine ⟨[some s, some fam0, o2, o3, o4, o5, o6, some (.tup [d, d, d]), some d], [some s, some fam0, o2, o3, o4, o5, o6, some (.tup [d, d, d]), some d], rfl, ?_, rfl⟩
      simp [mCallF, mFill, fill, f, c, afterC, pickL, putBack]) (by simp)
    simp only [mLc, mV7, bind_ok, fz_tup, fzs_cons, fzs_nil, f, oSeq, wipeR, List.set_cons_succ, List.set_cons_zero]
    rw [hm]
    rfl
  have hm := lcMap (g := gSet 7) (te := mN oTuple (mCons (mLc (fun ρ => ((mV 7) ρ).bind oSeq) (gSet 8) mYes (mCallF [none] [] [] F_copied_face (mCons (mV 8) mNil)) [8]) mNil)) (own := [7]) (f := fun _ => .tup [face0, face0, face0]) [.tup [face0, face0, face0]] [] [some s, some fam0, o2, o3, o4, o5, o6, none, none] (fun d hd => by
    have e : d = .tup [face0, face0, face0] := by simpa using hd
    subst e
    refine ⟨[some s, some fam0, o2, o3, o4, o5, o6, some (.tup [face0, face0, face0]), none], [some s, some fam0, o2, o3, o4, o5, o6, some (.tup [face0, face0, face0]), none], rfl, ?_, rfl⟩
    rw [mN_app, mCons_app, inner none]
    rfl) (by simp)
  have v1 : (mV 1) [some s, some fam0, o2, o3, o4, o5, o6, none, none] = .ok fam0 [some s, some fam0, o2, o3, o4, o5, o6, none, none] := rfl
  have q : ∀ ρ, oSeq fam0 ρ = .ok [.tup [face0, face0, face0]] ρ := fun _ => rfl
  simp only [mLc, v1, bind_ok, q]
  exact hm
theorem num_rows {g : Int} {A B C : List D} (hn : A.length = 23 ∧ B.length = 23 ∧ C.length = 23) (hv : (∀ v ∈ A, Bv g v) ∧ (∀ v ∈ B, Bv g v) ∧ ∀ v ∈ C, Bv g v) {o0 o1 o3 o4 o5 o6 o7 o8 : Option D} : (mN oTuple (mCons (mLc (fun ρ => ((mV 2) ρ).bind oSeq) (gSet 6) mYes (mN oDictC (mCons (mV 6) mNil)) [6]) mNil)) [o0, o1, some (.tup [rowF A, rowF B, rowF C]), o3, o4, o5, o6, o7, o8] = .ok (.tup [rowF A, rowF B, rowF C]) [o0, o1, some (.tup [rowF A, rowF B, rowF C]), o3, o4, o5, none, o7, o8] := by
  have cp : ∀ {vs : List D}, vs.length = 23 → (∀ v ∈ vs, Bv g v) → ∀ ρ, oDictC [rowF vs] ρ = .ok (rowO vs) ρ := fun {vs} h _ ρ => by
    have e1 : ((W1.map (Sum.inr : Str → Key)).zip vs).map (·.1) = W1.map Sum.inr := List.map_fst_zip (by rw [List.length_map, h]; decide)
    have e2 : ((W1.map (Sum.inr : Str → Key)).zip vs).map (·.2) = vs := List.map_snd_zip (by rw [List.length_map, h]; decide)
    show R.ok (D.dK true (((W1.map (Sum.inr : Str → Key)).zip vs).map (·.1)) (((W1.map (Sum.inr : Str → Key)).zip vs).map (·.2))) ρ = _
    rw [e1, e2]
    rfl
  have fa := fz_rowF hv.1
  have fb := fz_rowF hv.2.1
  have fc := fz_rowF hv.2.2
  have ga := fz_row hv.1
  have gb := fz_row hv.2.1
  have gc := fz_row hv.2.2
  have ca := cp hn.1 hv.1
  have cb := cp hn.2.1 hv.2.1
  have cc := cp hn.2.2 hv.2.2
  generalize rowF A = a at *
  generalize rowF B = b at *
  generalize rowF C = c at *
  generalize rowO A = a' at *
  generalize rowO B = b' at *
  generalize rowO C = c' at *
  have z : ∀ n, n ≤ 1000 → n < sizeLine + 1 := fun n hn => Nat.lt_succ_of_le (szl hn)
  have z0 : 0 < sizeLine := Nat.lt_of_lt_of_le (by decide : 0 < 1000) (szl (Nat.le_refl _))
  have z1 : 1 < sizeLine := Nat.lt_of_lt_of_le (by decide : 1 < 1000) (szl (Nat.le_refl _))
  have z2 : 2 < sizeLine := Nat.lt_of_lt_of_le (by decide : 2 < 1000) (szl (Nat.le_refl _))
  simp [mLc, fa, fb, fc, wipeR, lcLoop, mYes, ca, cb, cc, z0, z1, z2, oTuple, ga, gb, gc]
end Qk52
end

section
set_option linter.all false
set_option maxHeartbeats 4000000
namespace Qk52
open PySem L2 T
abbrev rowsT (A B C : List D) : D := .tup [rowF A, rowF B, rowF C]
theorem setF_ok {fs : List Str} {ds : List D} {f : Str} {m : Ro → R D} {ρ ρ1 : Ro} {d : D} (h : m ρ = .ok d ρ1) (h1 : ρ1[0]? = some (some (.ins true 5 fs ds))) (hl : fs.length < 999) : mSetF [5] 0 f m ρ = .nx (ρ1.set 0 (some (.ins true 5 (putN f fs) (putX f d fs ds)))) := by
  unfold mSetF
  rw [h]
  show (match ρ1[0]? with
    | some (some (.ins true c fs ds)) => if ([5] : List Cid).contains c && decide (fs.length < 999) then RS.nx (ρ1.set 0 (some (.ins true c (putN f fs) (putX f d fs ds)))) else .bad
    | _ => .bad) = _
  rw [h1]
  have c : (([5] : List Cid).contains 5 && decide (fs.length < 999)) = true := by rw [decide_eq_true hl]; rfl
  show (if (([5] : List Cid).contains 5 && decide (fs.length < 999)) = true then _ else _) = _
  rw [if_pos c]
theorem init_head {g : Int} (hg : 0 < g) (h50 : g ≤ 10 ^ 50) {dg : List D} (hd : ∀ d ∈ dg, Dg d) (hl : dg.length = 130) {A B C : List D} (hn : A.length = 23 ∧ B.length = 23 ∧ C.length = 23) (hv : (∀ v ∈ A, Bv g v) ∧ (∀ v ∈ B, Bv g v) ∧ ∀ v ∈ C, Bv g v) (rest : Ro → RS) :
    m_Fontsdd_initdd () [some (.ins true 5 [] []), some (.lst true [.tup [face0, face0, face0]]), some (rowsT A B C), some (.dK true (W2.map Sum.inr) (setVals2 dg g)), some .non, none, none, none, none] = (mSeq f1 (mSeq f2 (mSeq f3 f4))) [some (.ins true 5 [] []), some fam0, some (rowsT A B C), some (.dK false (W2.map Sum.inr) (setVals2 dg g)), some .non, some (.int 2), some (rowF C), none, none] := by
  have fa := fz_rowF hv.1
  have fb := fz_rowF hv.2.1
  have fc := fz_rowF hv.2.2
  have fS : T.fz (.dK true (W2.map Sum.inr) (setVals2 dg g)) = .dK false (W2.map Sum.inr) (setVals2 dg g) := by
    show D.dK false (W2.map Sum.inr) (T.fzs (setVals2 dg g)) = _
    rw [Bv.fzs (sv2_Bv hd hl hg)]
  have i1 : (mDrop (mCallF [none] [] [] F_check_families (mCons (mV 1) mNil))) [some (.ins true 5 [] []), some (.lst true [.tup [face0, face0, face0]]), some (rowsT A B C), some (.dK true (W2.map Sum.inr) (setVals2 dg g)), some .non, none, none, none, none] = .nx [some (.ins true 5 [] []), some fam0, some (rowsT A B C), some (.dK true (W2.map Sum.inr) (setVals2 dg g)), some .non, none, none, none, none] := by
    have f : T.fz (.lst true [.tup [face0, face0, face0]]) = fam0 := rfl
    have c := check_families
    generalize D.lst true [.tup [face0, face0, face0]] = x at *
    generalize fam0 = y at *
    simp [mCallF, mFill, fill, f, c, afterC, pickL, putBack]
  have i2 : (mIfS (mNot (mT (mCallF [none, none] [] [] F_is_tuple (mCons (mV 2) (mCons (mC (.int 3)) mNil))))) (fun _ => .bad) mNx) [some (.ins true 5 [] []), some fam0, some (rowsT A B C), some (.dK true (W2.map Sum.inr) (setVals2 dg g)), some .non, none, none, none, none] = .nx [some (.ins true 5 [] []), some fam0, some (rowsT A B C), some (.dK true (W2.map Sum.inr) (setVals2 dg g)), some .non, none, none, none, none] := by
    have t := is_tuple [rowF A, rowF B, rowF C] 3 rfl
    have t : F_is_tuple [.tup [rowF A, rowF B, rowF C], .int 3] = .ok (.bl true) [] := t
    simp [mCallF, mFill, fill, fa, fb, fc, t, afterC, pickL, putBack]
  have i3 := w_loop h50 hn hv (o0 := some (.ins true 5 [] [])) (o1 := some fam0) (o3 := some (.dK true (W2.map Sum.inr) (setVals2 dg g))) (o4 := some .non) (o5 := none) (o6 := none) (o7 := none) (o8 := none)
  have i4 : (mDrop (mCallF [none, none, none, none] [] [] F_check_words (mCons (mV 3) (mCons (mC k_SETTINGS) (mCons (mC (.str "settings")) (mCons (mN oTup mNil) mNil)))))) [some (.ins true 5 [] []), some fam0, some (rowsT A B C), some (.dK true (W2.map Sum.inr) (setVals2 dg g)), some .non, some (.int 2), some (rowF C), none, none] = .nx [some (.ins true 5 [] []), some fam0, some (rowsT A B C), some (.dK false (W2.map Sum.inr) (setVals2 dg g)), some .non, some (.int 2), some (rowF C), none, none] := by
    have c := set_words hd hl hg h50 (.str "settings") (.tup [])
    rw [← sts] at c
    generalize D.dK true (W2.map Sum.inr) (setVals2 dg g) = x at *
    generalize D.dK false (W2.map Sum.inr) (setVals2 dg g) = y at *
    simp [mCallF, mFill, fill, fS, c, afterC, pickL, putBack, szOk, szl]
  have i5 : (mIfS (mAnd (mT (m2 oIsNot (mV 4) (mC .non))) (mNot (mT (mCallF [none] [] [] F_is_name (mCons (mV 4) mNil))))) (fun _ => .bad) mNx) [some (.ins true 5 [] []), some fam0, some (rowsT A B C), some (.dK false (W2.map Sum.inr) (setVals2 dg g)), some .non, some (.int 2), some (rowF C), none, none] = .nx [some (.ins true 5 [] []), some fam0, some (rowsT A B C), some (.dK false (W2.map Sum.inr) (setVals2 dg g)), some .non, some (.int 2), some (rowF C), none, none] := rfl
  unfold m_Fontsdd_initdd
  rw [mSeq_nx i1, mSeq_nx i2]
  change mSeq (mFor _ wG wB) _ _ = _
  rw [mSeq_nx i3, mSeq_nx i4, mSeq_nx i5]
end Qk52
end

section
set_option linter.all false
set_option maxHeartbeats 4000000
namespace Qk52
open PySem L2 T
theorem putF1 {d1 : D} : putN "family_rows" [] = (["family_rows"] : List Str) ∧ putX "family_rows" d1 [] [] = [d1] := ⟨rfl, rfl⟩
theorem putF2 {d1 d2 : D} : putN "number_rows" ["family_rows"] = (["family_rows", "number_rows"] : List Str) ∧ putX "number_rows" d2 ["family_rows"] [d1] = [d1, d2] := by
  constructor
  · simp [putN, nf1]
  · simp [putX, nf1]
theorem putF3 {d1 d2 d3 : D} : putN "setting_rows" ["family_rows", "number_rows"] = (["family_rows", "number_rows", "setting_rows"] : List Str) ∧ putX "setting_rows" d3 ["family_rows", "number_rows"] [d1, d2] = [d1, d2, d3] := by
  constructor
  · simp [putN, nf2, nf4]
  · simp [putX, nf2, nf4]
theorem putF4 {d1 d2 d3 d4 : D} : putN "skew_name" ["family_rows", "number_rows", "setting_rows"] = fsFonts ∧ putX "skew_name" d4 ["family_rows", "number_rows", "setting_rows"] [d1, d2, d3] = [d1, d2, d3, d4] := by
  constructor
  · simp [putN, nf3, nf5, nf6]
  · simp [putX, nf3, nf5, nf6]
theorem fonts_init {g : Int} (hg : 0 < g) (h50 : g ≤ 10 ^ 50) {dg : List D} (hd : ∀ d ∈ dg, Dg d) (hl : dg.length = 130) {A B C : List D} (hn : A.length = 23 ∧ B.length = 23 ∧ C.length = 23) (hv : (∀ v ∈ A, Bv g v) ∧ (∀ v ∈ B, Bv g v) ∧ ∀ v ∈ C, Bv g v) :
    F_Fontsdd_initdd [.ins true 5 [] [], .lst true [.tup [face0, face0, face0]], rowsT A B C, .dK true (W2.map Sum.inr) (setVals2 dg g), .non] = .ok .non [fontsD true A B C (setVals2 dg g)] := by
  have fS : T.fz (.dK false (W2.map Sum.inr) (setVals2 dg g)) = .dK false (W2.map Sum.inr) (setVals2 dg g) := by
    show D.dK false (W2.map Sum.inr) (T.fzs (setVals2 dg g)) = _
    rw [Bv.fzs (sv2_Bv hd hl hg)]
  have cS : ∀ ρ, oDictC [.dK false (W2.map Sum.inr) (setVals2 dg g)] ρ = .ok (.dK true (W2.map Sum.inr) (setVals2 dg g)) ρ := fun ρ => rfl
  unfold F_Fontsdd_initdd
  have e : start0 N_Fontsdd_initdd [.ins true 5 [] [], .lst true [.tup [face0, face0, face0]], rowsT A B C, .dK true (W2.map Sum.inr) (setVals2 dg g), .non] = [some (.ins true 5 [] []), some (.lst true [.tup [face0, face0, face0]]), some (rowsT A B C), some (.dK true (W2.map Sum.inr) (setVals2 dg g)), some .non, none, none, none, none] := rfl
  rw [e, init_head hg h50 hd hl hn hv mNx]
  have s1 := setF_ok (f := "family_rows") (fam_rows (o2 := some (rowsT A B C)) (o3 := some (.dK false (W2.map Sum.inr) (setVals2 dg g))) (o4 := some .non) (o5 := some (.int 2)) (o6 := some (rowF C)) (.ins true 5 [] [])) rfl (by decide)
  rw [(putF1 (d1 := .non)).1, putF1.2] at s1
  rw [mSeq_nx s1]
  have s2 := setF_ok (f := "number_rows") (num_rows hn hv (o0 := some (.ins true 5 ["family_rows"] [.lst true [.tup [face0, face0, face0]]])) (o1 := some fam0) (o3 := some (.dK false (W2.map Sum.inr) (setVals2 dg g))) (o4 := some .non) (o5 := some (.int 2)) (o6 := some (rowF C)) (o7 := none) (o8 := none)) rfl (by decide)
  rw [(putF2 (d1 := .non) (d2 := .non)).1, putF2.2] at s2
  have s2' : f2 [some (.ins true 5 ["family_rows"] [.lst true [.tup [face0, face0, face0]]]), some fam0, some (rowsT A B C), some (.dK false (W2.map Sum.inr) (setVals2 dg g)), some .non, some (.int 2), some (rowF C), none, none] = _ := s2
  show toRF [0] (mSeq f2 (mSeq f3 f4) [some (.ins true 5 ["family_rows"] [.lst true [.tup [face0, face0, face0]]]), some fam0, some (rowsT A B C), some (.dK false (W2.map Sum.inr) (setVals2 dg g)), some .non, some (.int 2), some (rowF C), none, none]) = _
  rw [mSeq_nx s2']
  have m3 : (mN oDictC (mCons (mV 3) mNil)) [some (.ins true 5 ["family_rows", "number_rows"] [.lst true [.tup [face0, face0, face0]], rowsT A B C]), some fam0, some (rowsT A B C), some (.dK false (W2.map Sum.inr) (setVals2 dg g)), some .non, some (.int 2), none, none, none] = .ok (.dK true (W2.map Sum.inr) (setVals2 dg g)) [some (.ins true 5 ["family_rows", "number_rows"] [.lst true [.tup [face0, face0, face0]], rowsT A B C]), some fam0, some (rowsT A B C), some (.dK false (W2.map Sum.inr) (setVals2 dg g)), some .non, some (.int 2), none, none, none] := by
    rw [mN_app, mCons_app, mV3, fS, bind_ok, mNil_app, bind_ok, bind_ok, cS]
  have s3 := setF_ok (f := "setting_rows") m3 rfl (by decide)
  rw [(putF3 (d1 := .non) (d2 := .non) (d3 := .non)).1, putF3.2] at s3
  show toRF [0] (mSeq f3 f4 [some (.ins true 5 ["family_rows", "number_rows"] [.lst true [.tup [face0, face0, face0]], rowsT A B C]), some fam0, some (rowsT A B C), some (.dK false (W2.map Sum.inr) (setVals2 dg g)), some .non, some (.int 2), none, none, none]) = _
  rw [mSeq_nx (m := f3) s3]
  have s4 := setF_ok (f := "skew_name") (m := mV 4) (ρ := [some (.ins true 5 ["family_rows", "number_rows", "setting_rows"] [.lst true [.tup [face0, face0, face0]], rowsT A B C, .dK true (W2.map Sum.inr) (setVals2 dg g)]), some fam0, some (rowsT A B C), some (.dK false (W2.map Sum.inr) (setVals2 dg g)), some .non, some (.int 2), none, none, none]) rfl rfl (by decide)
  rw [(putF4 (d1 := .non) (d2 := .non) (d3 := .non) (d4 := .non)).1, putF4.2] at s4
  show toRF [0] (f4 [some (.ins true 5 ["family_rows", "number_rows", "setting_rows"] [.lst true [.tup [face0, face0, face0]], rowsT A B C, .dK true (W2.map Sum.inr) (setVals2 dg g)]), some fam0, some (rowsT A B C), some (.dK false (W2.map Sum.inr) (setVals2 dg g)), some .non, some (.int 2), none, none, none]) = _
  unfold f4
  rw [s4]
  rfl
end Qk52
end

section
set_option linter.all false
set_option maxHeartbeats 4000000
namespace Qk52
open PySem L2 T
def wrldF (A B C S : List D) : D := .dK false [.inr "numbers", .inr "settings"] [.lst false [rowF A, rowF B, rowF C], .dK false (W2.map Sum.inr) S]
theorem ix_num (A B C S : List D) (ρ : Ro) : oIxA (wrldF A B C S) (.str "numbers") ρ = .ok (.lst false [rowF A, rowF B, rowF C]) ρ := by
  simp [wrldF, oIxA, keyD, valD]
theorem ix_set (A B C S : List D) (ρ : Ro) : oIxA (wrldF A B C S) (.str "settings") ρ = .ok (.dK false (W2.map Sum.inr) S) ρ := by
  have n : ¬ ((.inr "numbers" : Key) = .inr "settings") := by decide +kernel
  have n' : ¬ (("numbers" : Str) = "settings") := fun e => n (congrArg Sum.inr e)
  simp [wrldF, oIxA, keyD, valD, n']
end Qk52
end

section
set_option linter.all false
set_option maxHeartbeats 4000000
namespace Qk52
open PySem L2 T
theorem fz_wrldF {g : Int} {A B C S : List D} (hv : (∀ v ∈ A, Bv g v) ∧ (∀ v ∈ B, Bv g v) ∧ ∀ v ∈ C, Bv g v) (hS : ∀ v ∈ S, Bv g v) : T.fz (wrldF A B C S) = wrldF A B C S := by
  show D.dK false _ (T.fzs [.lst false [rowF A, rowF B, rowF C], .dK false (W2.map Sum.inr) S]) = _
  have fs : T.fz (.dK false (W2.map Sum.inr) S) = .dK false (W2.map Sum.inr) S := by
    show D.dK false _ (T.fzs S) = _
    rw [Bv.fzs hS]
  rw [fzs_cons, fzs_cons, fzs_nil, fz_lst, fzs_cons, fzs_cons, fzs_cons, fzs_nil, fz_rowF hv.1, fz_rowF hv.2.1, fz_rowF hv.2.2, fs]
  rfl
theorem num_arg {g : Int} {A B C S : List D} (hn : A.length = 23 ∧ B.length = 23 ∧ C.length = 23) (hv : (∀ v ∈ A, Bv g v) ∧ (∀ v ∈ B, Bv g v) ∧ ∀ v ∈ C, Bv g v) (hS : ∀ v ∈ S, Bv g v) {o1 : Option D} : (mN oTuple (mCons (mLc (fun ρ => ((m2 oIxA (mV 0) (mC (.str "numbers"))) ρ).bind oSeq) (gSet 2) mYes (mN oDictC (mCons (mV 2) mNil)) [2]) mNil)) [some (wrldF A B C S), o1, none] = .ok (rowsT A B C) [some (wrldF A B C S), o1, none] := by
  have cp : ∀ {vs : List D}, vs.length = 23 → ∀ ρ, oDictC [rowF vs] ρ = .ok (rowO vs) ρ := fun {vs} h ρ => by
    have e1 : ((W1.map (Sum.inr : Str → Key)).zip vs).map (·.1) = W1.map Sum.inr := List.map_fst_zip (by rw [List.length_map, h]; decide)
    have e2 : ((W1.map (Sum.inr : Str → Key)).zip vs).map (·.2) = vs := List.map_snd_zip (by rw [List.length_map, h]; decide)
    show R.ok (D.dK true (((W1.map (Sum.inr : Str → Key)).zip vs).map (·.1)) (((W1.map (Sum.inr : Str → Key)).zip vs).map (·.2))) ρ = _
    rw [e1, e2]
    rfl
  have fw := fz_wrldF hv hS
  have ix := ix_num A B C S
  have fa := fz_rowF hv.1
  have fb := fz_rowF hv.2.1
  have fc := fz_rowF hv.2.2
  have ga := fz_row hv.1
  have gb := fz_row hv.2.1
  have gc := fz_row hv.2.2
  have ca := cp hn.1
  have cb := cp hn.2.1
  have cc := cp hn.2.2
  generalize wrldF A B C S = w at *
  unfold rowsT
  generalize rowF A = a at *
  generalize rowF B = b at *
  generalize rowF C = c at *
  generalize rowO A = a' at *
  generalize rowO B = b' at *
  generalize rowO C = c' at *
  have z0 : 0 < sizeLine := Nat.lt_of_lt_of_le (by decide : 0 < 1000) (szl (Nat.le_refl _))
  have z1 : 1 < sizeLine := Nat.lt_of_lt_of_le (by decide : 1 < 1000) (szl (Nat.le_refl _))
  have z2 : 2 < sizeLine := Nat.lt_of_lt_of_le (by decide : 2 < 1000) (szl (Nat.le_refl _))
  simp [mLc, fw, ix, fa, fb, fc, wipeR, lcLoop, mYes, ca, cb, cc, z0, z1, z2, oTuple, ga, gb, gc]
theorem fonts {g : Int} (hg : 0 < g) (h50 : g ≤ 10 ^ 50) {dg : List D} (hd : ∀ d ∈ dg, Dg d) (hl : dg.length = 130) {A B C : List D} (hn : A.length = 23 ∧ B.length = 23 ∧ C.length = 23) (hv : (∀ v ∈ A, Bv g v) ∧ (∀ v ∈ B, Bv g v) ∧ ∀ v ∈ C, Bv g v) :
    F_law_fonts [wrldF A B C (setVals2 dg g)] = .ok (fontsD true A B C (setVals2 dg g)) [] := by
  have fw := fz_wrldF hv (sv2_Bv hd hl hg)
  have ixs := ix_set A B C (setVals2 dg g)
  have na := num_arg hn hv (sv2_Bv hd hl hg) (o1 := some face0)
  have fi := fonts_init hg h50 hd hl hn hv
  have cS : ∀ ρ, oDictC [.dK false (W2.map Sum.inr) (setVals2 dg g)] ρ = .ok (.dK true (W2.map Sum.inr) (setVals2 dg g)) ρ := fun ρ => rfl
  unfold F_law_fonts m_law_fonts
  have e : start0 N_law_fonts [wrldF A B C (setVals2 dg g)] = [some (wrldF A B C (setVals2 dg g)), none, none] := rfl
  rw [e]
  have s1 : (mAsg (mN oTup (mCons oDict0 (mCons oDict0 (mCons (mC (.bl false)) mNil)))) (gSet 1)) [some (wrldF A B C (setVals2 dg g)), none, none] = .nx [some (wrldF A B C (setVals2 dg g)), some (.tup [.dK true [] [], .dK true [] [], .bl false]), none] := by
    generalize wrldF A B C (setVals2 dg g) = w
    simp [oDict0, szOk, szl]
  have a1 : (mN oLst (mCons (mN oTup (mCons (mV 1) (mCons (mV 1) (mCons (mV 1) mNil)))) mNil)) [some (wrldF A B C (setVals2 dg g)), some (.tup [.dK true [] [], .dK true [] [], .bl false]), none] = .ok (.lst true [.tup [face0, face0, face0]]) [some (wrldF A B C (setVals2 dg g)), some face0, none] := by
    have f1 : T.fz (.tup [.dK true [] [], .dK true [] [], .bl false]) = face0 := rfl
    have f2 : T.fz face0 = face0 := rfl
    generalize wrldF A B C (setVals2 dg g) = w
    generalize D.tup [.dK true [] [], .dK true [] [], .bl false] = x at *
    generalize face0 = y at *
    simp [f1, f2, szOk, szl]
  have a3 : (mN oDictC (mCons (m2 oIxA (mV 0) (mC (.str "settings"))) mNil)) [some (wrldF A B C (setVals2 dg g)), some face0, none] = .ok (.dK true (W2.map Sum.inr) (setVals2 dg g)) [some (wrldF A B C (setVals2 dg g)), some face0, none] := by
    rw [mN_app, mCons_app, m2_app, mV0, fw, bind_ok, mC_app, bind_ok, ixs, bind_ok, mNil_app, bind_ok, bind_ok, cS]
  rw [mSeq_nx s1, mRet_app]
  unfold mMake
  rw [mCons_app, a1, bind_ok, mCons_app, na, bind_ok, mCons_app, a3, bind_ok, mNil_app, bind_ok, bind_ok, bind_ok, bind_ok]
  rw [if_pos (show ([D.lst true [D.tup [face0, face0, face0]], rowsT A B C, D.dK true (W2.map Sum.inr) (setVals2 dg g)] : List D).length = 3 from rfl)]
  show toRF [] (bS (afterM _ (F_Fontsdd_initdd [.ins true 5 [] [], .lst true [.tup [face0, face0, face0]], rowsT A B C, .dK true (W2.map Sum.inr) (setVals2 dg g), .non])) _) = _
  rw [fi]
  rfl
end Qk52
end

section
set_option linter.all false
set_option maxHeartbeats 4000000
namespace Qk52
open PySem L2 T
/-! ### a drawn box -/
theorem digAt_in {dg : List D} (hd : ∀ d ∈ dg, Dg d) {t : Int} (h0 : 0 ≤ t) (h1 : t < dg.length) : atI dg t = some (.int (digAt dg t)) ∧ 0 ≤ digAt dg t ∧ digAt dg t < 1009 := by
  obtain ⟨d, hm, ed⟩ := atI_in (l := dg) h0 h1
  obtain ⟨x, rfl, hx0, hx1⟩ := hd d hm
  have e : digAt dg t = x := by unfold digAt; rw [ed]
  rw [e]
  exact ⟨ed, hx0, hx1⟩
def szV (dg : List D) (g t : Int) : Int := digAt dg t % 700 * g
theorem szV_b {dg : List D} {g : Int} (hg : 0 < g) (t : Int) : 0 ≤ szV dg g t ∧ szV dg g t ≤ 700 * g := by
  have m0 : 0 ≤ digAt dg t % 700 := Int.emod_nonneg _ (by decide)
  have m1 : digAt dg t % 700 < 700 := Int.emod_lt_of_pos _ (by decide)
  exact ⟨Int.mul_nonneg m0 (by omega), Int.mul_le_mul_of_nonneg_right (by omega) (by omega)⟩
abbrev b1 : Ro → RS := (mAsg (mLc (fun ρ => ((mCons (mC (.int 3)) mNil) ρ).bind oRange) (gSet 8) mYes (m2 oMulI (m2 oMod (mN oInt (mCons (m2 oIx (mV 0) (mV 8)) mNil)) (mC (.int 700))) (mV 1)) [8]) (gUnlD 3 (gsCons (gSet 3) (gsCons (gSet 6) (gsCons (gSet 7) gsNil)))))
theorem box1 {dg : List D} (hd : ∀ d ∈ dg, Dg d) (hl : 5 ≤ dg.length) {g : Int} {o2 o3 o4 o5 o6 o7 : Option D} : b1 [some (.lst false dg), some (.int g), o2, o3, o4, o5, o6, o7, none] = .nx [some (.lst false dg), some (.int g), o2, some (.int (szV dg g 0)), o4, o5, some (.int (szV dg g 1)), some (.int (szV dg g 2)), none] := by
  have f := Dg.fzs hd
  have hin : inRng 3 = true := by decide
  have rg : rng 0 (3 : Int).toNat = [.int 0, .int 1, .int 2] := rfl
  have te : ∀ (t : Int), 0 ≤ t → t < 3 → (m2 oMulI (m2 oMod (mN oInt (mCons (m2 oIx (mV 0) (mV 8)) mNil)) (mC (.int 700))) (mV 1)) [some (.lst false dg), some (.int g), o2, o3, o4, o5, o6, o7, some (.int t)] = .ok (.int (szV dg g t)) [some (.lst false dg), some (.int g), o2, o3, o4, o5, o6, o7, some (.int t)] := fun t h0 h1 => by
    obtain ⟨ed, x0, x1⟩ := digAt_in hd (t := t) h0 (by omega)
    have q := mulOk_mod (x := digAt dg t) (y := g) (m := 700) (by decide) (by decide)
    simp [f, ed, oInt, q, szV]
  have hm := lcMap (g := gSet 8) (te := (m2 oMulI (m2 oMod (mN oInt (mCons (m2 oIx (mV 0) (mV 8)) mNil)) (mC (.int 700))) (mV 1))) (own := [8]) (f := fun d => match d with | .int t => .int (szV dg g t) | d => d) [.int 0, .int 1, .int 2] [] [some (.lst false dg), some (.int g), o2, o3, o4, o5, o6, o7, none] (fun d hm => by
    simp only [List.mem_cons, List.not_mem_nil, or_false] at hm
    rcases hm with rfl | rfl | rfl
    · exact ⟨_, _, rfl, te 0 (by decide) (by decide), rfl⟩
    · exact ⟨_, _, rfl, te 1 (by decide) (by decide), rfl⟩
    · exact ⟨_, _, rfl, te 2 (by decide) (by decide), rfl⟩) (by simp)
  unfold b1
  rw [mAsg_app]
  simp only [mLc, mCons_app, mC_app, mNil_app, bind_ok, oRange, hin, if_true, rg, wipeR, List.set_cons_succ, List.set_cons_zero]
  rw [hm]
  rfl
end Qk52
end

section
set_option linter.all false
set_option maxHeartbeats 4000000
namespace Qk52
open PySem L2 T
theorem oEq_int {i j : Int} {ρ : Ro} : oEq (.int i) (.int j) ρ = .ok (.bl (decide (i = j))) ρ := by
  unfold oEq
  simp only [toPy]
  have f : T.flat (.int i) = true := by unfold T.flat; rw [PyData.depth]; rfl
  rw [f]
  rw [PyData.eqv]
  · simp
    rfl
theorem i2_0 {a b : D} : L2.atI [a, b] 0 = some a := rfl
theorem i2_1 {a b : D} : L2.atI [a, b] 1 = some b := rfl
abbrev b2 : Ro → RS := (mAsg (m2 oIx (mN oLst (mCons (mV 3) (mCons (m2 oSub (mC (.int 0)) (m2 oFdiv (mV 3) (mC (.int 3)))) mNil))) (mN oInt (mCons (m2 oEq (m2 oMod (mN oInt (mCons (m2 oIx (mV 0) (mC (.int 1))) mNil)) (mC (.int 8))) (mC (.int 0))) mNil))) (gSet 3))
theorem box2 {dg : List D} (hd : ∀ d ∈ dg, Dg d) (hl : 5 ≤ dg.length) {x M : Int} (h0 : 0 ≤ x) (hM : x ≤ M) {o1 o2 o4 o5 o6 o7 o8 : Option D} : ∃ y, (-M ≤ y ∧ y ≤ M) ∧ b2 [some (.lst false dg), o1, o2, some (.int x), o4, o5, o6, o7, o8] = .nx [some (.lst false dg), o1, o2, some (.int y), o4, o5, o6, o7, o8] := by
  have f := Dg.fzs hd
  obtain ⟨ed, _, _⟩ := digAt_in hd (t := 1) (by decide) (by omega)
  by_cases c : digAt dg 1 % 8 = 0
  · refine ⟨0 - x / 3, ⟨by omega, by omega⟩, ?_⟩
    simp [f, ed, oInt, oEq_int, c, log2_lit, szOk, szl, i2_1]
  · refine ⟨x, ⟨by omega, by omega⟩, ?_⟩
    simp [f, ed, oInt, oEq_int, c, log2_lit, szOk, szl, i2_0]
abbrev b3 : Ro → RS := (mAsg (m2 oMod (mN oInt (mCons (m2 oIx (mV 0) (mC (.int 3))) mNil)) (mC (.int 9))) (gSet 4))
theorem box3 {dg : List D} (hd : ∀ d ∈ dg, Dg d) (hl : 5 ≤ dg.length) {o1 o2 o3 o4 o5 o6 o7 o8 : Option D} : b3 [some (.lst false dg), o1, o2, o3, o4, o5, o6, o7, o8] = .nx [some (.lst false dg), o1, o2, o3, some (.int (digAt dg 3 % 9)), o5, o6, o7, o8] := by
  have f := Dg.fzs hd
  obtain ⟨ed, _, _⟩ := digAt_in hd (t := 3) (by decide) (by omega)
  simp [f, ed, oInt]
end Qk52
end

section
set_option linter.all false
set_option maxHeartbeats 4000000
namespace Qk52
open PySem L2 T
abbrev b4 : Ro → RS := (mPar 6 7 (mCons (m2 oIx (mN oLst (mCons (mV 6) (mCons (m2 oSub (mC (.int 0)) (m2 oFdiv (mV 6) (mC (.int 4)))) mNil))) (mN oInt (mCons (m2 oEq (mV 4) (mC (.int 1))) mNil))) (mCons (m2 oIx (mN oLst (mCons (mV 7) (mCons (m2 oFdiv (mV 7) (mC (.int 2))) (mCons (m2 oSub (mC (.int 0)) (m2 oFdiv (mV 7) (mC (.int 5)))) (mCons (mC (.int 0)) mNil))))) (m2 oMod (mN oInt (mCons (mV 4) mNil)) (mC (.int 4)))) mNil)))
theorem box4 {h d s M : Int} (h0 : 0 ≤ h) (hM : h ≤ M) (d0 : 0 ≤ d) (dM : d ≤ M) {o0 o1 o2 o3 o5 o8 : Option D} : ∃ h' d', (-M ≤ h' ∧ h' ≤ M) ∧ (-M ≤ d' ∧ d' ≤ M) ∧ b4 [o0, o1, o2, o3, some (.int s), o5, some (.int h), some (.int d), o8] = .nx [o0, o1, o2, o3, some (.int s), o5, some (.int h'), some (.int d'), o8] := by
  have m0 : 0 ≤ s % 4 := Int.emod_nonneg _ (by decide)
  have m4 : s % 4 < 4 := Int.emod_lt_of_pos _ (by decide)
  obtain ⟨e, he, ee⟩ := atI_in (l := [D.int d, .int (d / 2), .int (0 - d / 5), .int 0]) m0 (by simpa using m4)
  have hd' : ∃ y : Int, e = .int y ∧ -M ≤ y ∧ y ≤ M := by
    simp only [List.mem_cons, List.not_mem_nil, or_false] at he
    rcases he with rfl | rfl | rfl | rfl
    · exact ⟨_, rfl, by omega, by omega⟩
    · exact ⟨_, rfl, by omega, by omega⟩
    · exact ⟨_, rfl, by omega, by omega⟩
    · exact ⟨_, rfl, by omega, by omega⟩
  obtain ⟨y, rfl, y0, y1⟩ := hd'
  have z : ∀ x : Int, 0 - x = -x := fun x => by omega
  by_cases c : s = 1
  · refine ⟨0 - h / 4, y, ⟨by omega, by omega⟩, ⟨y0, y1⟩, ?_⟩
    subst c
    rw [z] at ee
    have ee' : L2.atI [D.int d, .int (d / 2), .int (-(d / 5)), .int 0] 1 = some (.int y) := ee
    simp [oInt, oEq_int, log2_lit, szOk, szl, i2_1, z, ee']
  · refine ⟨h, y, ⟨by omega, by omega⟩, ⟨y0, y1⟩, ?_⟩
    rw [z] at ee
    simp [oInt, oEq_int, c, log2_lit, szOk, szl, i2_0, z, ee]
end Qk52
end

section
set_option linter.all false
set_option maxHeartbeats 4000000
namespace Qk52
open PySem L2 T
abbrev b5 : Ro → RS := (mAsg (mN oLst (mCons (mN oTup (mCons (m2 oMod (mN oInt (mCons (m2 oIx (mV 0) (mC (.int 4))) mNil)) (mC (.int 9))) (mCons (m2 oSub (m2 oMod (mN oInt (mCons (m2 oIx (mV 0) (mC (.int 3))) mNil)) (mC (.int 7))) (mC (.int 3))) (mCons (mN oTup (mCons (mC (.str "rule")) (mCons (mN oTup (mCons (mV 2) (mCons (mC (.int 1)) mNil))) (mCons (m2 oFdiv (mV 3) (mC (.int 2))) (mCons (mC (.int 5)) mNil))))) mNil)))) mNil)) (gSet 5))
def ruleM (dg : List D) (t w : Int) : D := .tup [.int (digAt dg 4 % 9), .int (digAt dg 3 % 7 - 3), .tup [.str "rule", .tup [.int t, .int 1], .int (w / 2), .int 5]]
theorem box5 {dg : List D} (hd : ∀ d ∈ dg, Dg d) (hl : 5 ≤ dg.length) {t w : Int} {o1 o4 o5 o6 o7 o8 : Option D} : b5 [some (.lst false dg), o1, some (.int t), some (.int w), o4, o5, o6, o7, o8] = .nx [some (.lst false dg), o1, some (.int t), some (.int w), o4, some (.lst true [ruleM dg t w]), o6, o7, o8] := by
  have f := Dg.fzs hd
  obtain ⟨e3, _, _⟩ := digAt_in hd (t := 3) (by decide) (by omega)
  obtain ⟨e4, _, _⟩ := digAt_in hd (t := 4) (by decide) (by omega)
  simp [f, e3, e4, oInt, log2_lit, szOk, szl, ruleM]
end Qk52
end

section
set_option linter.all false
set_option maxHeartbeats 4000000
namespace Qk52
open PySem L2 T
/-! ### boxes -/
def WB (B i : Int) : Prop := -B ≤ i ∧ i ≤ B
theorem WB.mono {B C i : Int} (h : WB B i) (k : B ≤ C) : WB C i := ⟨by have := h.1; omega, by have := h.2; omega⟩
def IntIn (lo hi : Int) (d : D) : Prop := ∃ i, d = .int i ∧ lo ≤ i ∧ i < hi
theorem fz_in {lo hi : Int} {e : D} (h : IntIn lo hi e) : fz e = e := by obtain ⟨i, rfl, _⟩ := h; rfl
theorem fzs_in {lo hi : Int} : ∀ {es : List D}, (∀ e ∈ es, IntIn lo hi e) → fzs es = es
  | [], _ => rfl
  | e :: es, h => by rw [fzs_cons, fz_in (h e List.mem_cons_self), fzs_in fun x hx => h x (List.mem_cons_of_mem _ hx)]
structure GoodM (m : D) : Prop where
  ex : ∃ sp : List D, sp.length ≤ 3 ∧ (∀ e ∈ sp, IntIn 0 100 e) ∧ ((∃ a b, WB (10 ^ 60) a ∧ WB (10 ^ 60) b ∧ m = .tup [.str "rule", .tup sp, .int a, .int b]) ∨ ∃ f s, IntIn 0 4 f ∧ IntIn 0 3 s ∧ m = .tup [.str "glyph", .tup sp, f, s, .str "x"])
theorem fz_M {m : D} (h : GoodM m) : fz m = m := by
  obtain ⟨sp, hl, hs, h | h⟩ := h.ex
  · obtain ⟨a, b, _, _, rfl⟩ := h
    simp [fzs_in hs]
  · obtain ⟨f, s, hf, hs', rfl⟩ := h
    simp [fzs_in hs, fz_in hf, fz_in hs']
def GP (B : Int) (d : D) : Prop := ∃ a b m, WB B a ∧ WB B b ∧ GoodM m ∧ d = .tup [.int a, .int b, m]
theorem GP.mono {B C : Int} {d : D} (h : GP B d) (k : B ≤ C) : GP C d := by
  obtain ⟨a, b, m, ha, hb, hm, e⟩ := h
  exact ⟨a, b, m, ha.mono k, hb.mono k, hm, e⟩
/-- two numbers and a mark -/
def Sh (d : D) : Prop := ∃ a b m, GoodM m ∧ d = .tup [.int a, .int b, m]
theorem GP.sh {B : Int} {d : D} (h : GP B d) : Sh d := by
  obtain ⟨a, b, m, _, _, hm, e⟩ := h
  exact ⟨a, b, m, hm, e⟩
theorem Sh.fz {d : D} (h : Sh d) : T.fz d = d := by
  obtain ⟨a, b, m, hm, rfl⟩ := h
  simp [fz_M hm]
theorem Sh.fzs : ∀ {es : List D}, (∀ e ∈ es, Sh e) → T.fzs es = es
  | [], _ => rfl
  | e :: es, h => by rw [fzs_cons, Sh.fz (h e List.mem_cons_self), Sh.fzs fun x hx => h x (List.mem_cons_of_mem _ hx)]
abbrev fsBox : List Str := ["width", "height", "depth", "marks"]
def boxD (o : Bool) (w h d : Int) (ms : List D) : D := .ins o 6 fsBox [.int w, .int h, .int d, .lst o ms]
theorem ne1 : ¬ (("width" : Str) = "height") := by decide +kernel
theorem ne2 : ¬ (("width" : Str) = "depth") := by decide +kernel
theorem ne3 : ¬ (("width" : Str) = "marks") := by decide +kernel
theorem ne4 : ¬ (("height" : Str) = "depth") := by decide +kernel
theorem ne5 : ¬ (("height" : Str) = "marks") := by decide +kernel
theorem ne6 : ¬ (("depth" : Str) = "marks") := by decide +kernel
theorem me1 : ¬ (("height" : Str) = "width") := by decide +kernel
theorem me2 : ¬ (("depth" : Str) = "width") := by decide +kernel
theorem me3 : ¬ (("marks" : Str) = "width") := by decide +kernel
theorem me4 : ¬ (("depth" : Str) = "height") := by decide +kernel
theorem me5 : ¬ (("marks" : Str) = "height") := by decide +kernel
theorem me6 : ¬ (("marks" : Str) = "depth") := by decide +kernel
theorem look1 {a b c d : D} : look "width" fsBox [a, b, c, d] = some a := by simp [look]
theorem look2 {a b c d : D} : look "height" fsBox [a, b, c, d] = some b := by simp [look, me1]
theorem look3 {a b c d : D} : look "depth" fsBox [a, b, c, d] = some c := by simp [look, me2, me4]
theorem look4 {a b c d : D} : look "marks" fsBox [a, b, c, d] = some d := by simp [look, me3, me5, me6]
theorem fz_box {o : Bool} {w h d : Int} {ms : List D} : fz (boxD o w h d ms) = boxD false w h d (fzs ms) := rfl
theorem fld1 {o : Bool} {w h d : Int} {ms : List D} {ρ : Ro} : oFld [6] "width" (boxD o w h d ms) ρ = .ok (.int w) ρ := by simp [boxD, oFld, look1]
theorem fld2 {o : Bool} {w h d : Int} {ms : List D} {ρ : Ro} : oFld [6] "height" (boxD o w h d ms) ρ = .ok (.int h) ρ := by simp [boxD, oFld, look2]
theorem fld3 {o : Bool} {w h d : Int} {ms : List D} {ρ : Ro} : oFld [6] "depth" (boxD o w h d ms) ρ = .ok (.int d) ρ := by simp [boxD, oFld, look3]
theorem fld4 {o : Bool} {w h d : Int} {ms : List D} {ρ : Ro} : oFld [6] "marks" (boxD o w h d ms) ρ = .ok (.lst o ms) ρ := by simp [boxD, oFld, look4]
theorem box_init (w h d : Int) (o : Bool) (ms : List D) : F_Boxdd_initdd [.ins true 6 [] [], .int w, .int h, .int d, .lst o ms] = .ok .non [boxD true w h d (fzs ms)] := by
  unfold F_Boxdd_initdd m_Boxdd_initdd
  have e : start0 N_Boxdd_initdd [.ins true 6 [] [], .int w, .int h, .int d, .lst o ms] = [some (.ins true 6 [] []), some (.int w), some (.int h), some (.int d), some (.lst o ms)] := rfl
  rw [e]
  simp [mSetF, putN, putX, oList, outsOf, boxD, ne1, ne2, ne3, ne4, ne5, ne6]
  rw [fzs_fzs]
theorem is_whole (i : Int) (h : WB (10 ^ 60) i) : F_is_whole [.int i] = .ok (.bl true) [] := by
  unfold F_is_whole m_is_whole
  have e : start0 N_is_whole [.int i] = [some (.int i)] := rfl
  rw [e]
  have hb := is_between i (-1000000000000000000000000000000000000000000000000000000000000) 1000000000000000000000000000000000000000000000000000000000000 (by unfold WB at h; omega) (by unfold WB at h; omega)
  simp [mCallF, mFill, fill, hb, afterC, pickL, putBack, k_MOST]
theorem all_true : ∀ {ds : List D} {α : Type} {l : List α}, ds = l.map (fun _ => D.bl true) → bls ds = some (l.map fun _ => true)
  | _, _, [], h => by subst h; rfl
  | _, _, a :: l, h => by subst h; simp [bls, all_true (l := l) rfl]
theorem is_path (sp : List D) (h : ∀ e ∈ sp, IntIn 0 100 e) (hl : sp.length ≤ 3) : F_is_path [.tup sp] = .ok (.bl true) [] := by
  unfold F_is_path m_is_path
  have e : start0 N_is_path [.tup sp] = [some (.tup sp), none] := rfl
  rw [e]
  have h1 : isOne kitCs (.b "tuple") (.ty "tuple") = some true := by decide +kernel
  have hm := lcMap (g := gSet 1) (te := mAndV (mCallF [none] [] [] F_is_integer (mCons (mV 1) mNil)) (m2 oGe (mV 1) (mC (.int 0)))) (own := [1]) (f := fun _ => .bl true) sp [] [some (.tup sp), none] (fun d hd => by
    obtain ⟨i, rfl, h0, h3⟩ := h d hd
    refine ⟨[some (.tup sp), some (.int i)], [some (.tup sp), some (.int i)], rfl, ?_, rfl⟩
    simp [mCallF, mFill, fill, is_integer, afterC, pickL, putBack, h0]) (by simp; omega)
  simp [oIsi, tyT, okT, h1, mLc, fzs_in h, wipeR, hm, oAll, all_true (l := sp) rfl, szOk, szl]
def isT : RF → Bool
  | .ok (.bl true) [] => true
  | _ => false
theorem isT_ok {r : RF} (h : isT r = true) : r = .ok (.bl true) [] := by
  unfold isT at h
  split at h
  · rfl
  · cases h
theorem isnmX : F_is_name [.str "x"] = .ok (.bl true) [] := isT_ok (by decide +kernel)
theorem is_mark (m : D) (h : GoodM m) : F_is_mark [m] = .ok (.bl true) [] := by
  obtain ⟨sp, hl, hs, h | h⟩ := h.ex
  · obtain ⟨a, b, sa, sb, rfl⟩ := h
    unfold F_is_mark m_is_mark
    have e : start0 N_is_mark [.tup [.str "rule", .tup sp, .int a, .int b]] = [some (.tup [.str "rule", .tup sp, .int a, .int b])] := rfl
    rw [e]
    have h1 : isOne kitCs (.b "tuple") (.ty "tuple") = some true := by decide +kernel
    have h2 : isOne kitCs (.b "str") (.ty "str") = some true := by decide +kernel
    simp [oIsi, tyT, okT, h1, h2, fzs_in hs, mCallF, mFill, fill, is_path sp hs hl, afterC, pickL, putBack, atI, ixN, oEq, toPy, flat, PyData.depth, PyData.eqv, is_whole a sa, is_whole b sb]
  · obtain ⟨f, s, hf, hs', rfl⟩ := h
    obtain ⟨f, rfl, f0, f4⟩ := hf
    obtain ⟨s, rfl, s0, s3⟩ := hs'
    unfold F_is_mark m_is_mark
    have e : start0 N_is_mark [.tup [.str "glyph", .tup sp, .int f, .int s, .str "x"]] = [some (.tup [.str "glyph", .tup sp, .int f, .int s, .str "x"])] := rfl
    rw [e]
    have h1 : isOne kitCs (.b "tuple") (.ty "tuple") = some true := by decide +kernel
    have h2 : isOne kitCs (.b "str") (.ty "str") = some true := by decide +kernel
    have h3 : (("glyph" : Str) == "rule") = false := by decide +kernel
    have h4 : ¬ (("glyph" : Str) = "rule") := by decide +kernel
    simp [oIsi, tyT, okT, h1, h2, h3, h4, fzs_in hs, mCallF, mFill, fill, is_path sp hs hl, afterC, pickL, putBack, atI, ixN, oEq, oNe, toPy, flat, PyData.depth, PyData.eqv, is_between f 0 3 f0 (by omega), is_between s 0 2 s0 (by omega), isnmX]
theorem is_placed (d : D) (h : GP (10 ^ 60) d) : F_is_placed [d] = .ok (.bl true) [] := by
  obtain ⟨a, b, m, sa, sb, hm, rfl⟩ := h
  unfold F_is_placed m_is_placed
  have e : start0 N_is_placed [.tup [.int a, .int b, m]] = [some (.tup [.int a, .int b, m])] := rfl
  rw [e]
  have ht : F_is_tuple [.tup [.int a, .int b, m], .int 3] = .ok (.bl true) [] := is_tuple _ 3 rfl
  simp [mCallF, mFill, fill, fz_M hm, ht, afterC, pickL, putBack, atI, ixN, is_whole a sa, is_whole b sb, is_mark m hm]
theorem sizes_of (o : Bool) (w h d : Int) (ms : List D) : F_sizes_of [boxD o w h d ms] = .ok (.tup [.int w, .int h, .int d]) [] := by
  unfold F_sizes_of m_sizes_of
  have e : start0 N_sizes_of [boxD o w h d ms] = [some (boxD o w h d ms)] := rfl
  rw [e]
  simp [fz_box, fld1, fld2, fld3, szOk, szl]
theorem ty_box {o : Bool} {w h d : Int} {ms : List D} : tyT (boxD o w h d ms) = some (.o 6) := rfl
theorem ty_lst {o : Bool} {ms : List D} : tyT (.lst o ms) = some (.b "list") := rfl
/-- a box as a law has it -/
structure Bx where
  w : Int
  h : Int
  d : Int
  ms : List D
def Bx.t (o : Bool) (b : Bx) : D := boxD o b.w b.h b.d b.ms
structure Bx.ok (B : Int) (b : Bx) : Prop where
  w : WB B b.w
  h : WB B b.h
  d : WB B b.d
  pl : ∀ e ∈ b.ms, GP B e
  len : b.ms.length < 500
theorem Bx.ok.mono {B C : Int} {b : Bx} (g : b.ok B) (k : B ≤ C) : b.ok C := ⟨g.w.mono k, g.h.mono k, g.d.mono k, fun e he => (g.pl e he).mono k, g.len⟩
structure Bx.sh (b : Bx) : Prop where
  pl : ∀ e ∈ b.ms, Sh e
  len : b.ms.length < 500
theorem Bx.ok.sh {B : Int} {b : Bx} (g : b.ok B) : b.sh := ⟨fun e he => (g.pl e he).sh, g.len⟩
theorem Bx.fz {o : Bool} {b : Bx} (g : b.sh) : T.fz (b.t o) = b.t false := by
  show boxD false b.w b.h b.d (fzs b.ms) = _
  rw [Sh.fzs g.pl]
  rfl
section
variable {o : Bool} {b : Bx} {ρ : Ro}
theorem bf1 : oFld [6] "width" (b.t o) ρ = .ok (.int b.w) ρ := fld1
theorem bf2 : oFld [6] "height" (b.t o) ρ = .ok (.int b.h) ρ := fld2
theorem bf3 : oFld [6] "depth" (b.t o) ρ = .ok (.int b.d) ρ := fld3
theorem bf4 : oFld [6] "marks" (b.t o) ρ = .ok (.lst o b.ms) ρ := fld4
theorem bty : tyT (b.t o) = some (.o 6) := rfl
end
theorem check_box (o : Bool) (b : Bx) (g : b.ok (10 ^ 60)) : F_check_box [b.t o] = .ok .non [] := by
  unfold F_check_box m_check_box
  have e : start0 N_check_box [b.t o] = [some (b.t o), none, none, none] := rfl
  rw [e]
  have h1 : isOne kitCs (.o 6) (.cls 6) = some true := by decide +kernel
  have h2 : isOne kitCs (.b "list") (.ty "list") = some true := by decide +kernel
  have hf := Sh.fzs g.sh.pl
  have f1 := Bx.fz (o := o) g.sh
  have f2 := Bx.fz (o := false) g.sh
  have sz : F_sizes_of [b.t false] = .ok (.tup [.int b.w, .int b.h, .int b.d]) [] := sizes_of false b.w b.h b.d b.ms
  have hm := lcMap (g := gSet 3) (te := mCallF [none] [] [] F_is_placed (mCons (mV 3) mNil)) (own := [3]) (f := fun _ => .bl true) b.ms [] [some (b.t false), some (.str "depth"), some (.int b.d), none] (fun x hx => by
    refine ⟨[some (b.t false), some (.str "depth"), some (.int b.d), some x], [some (b.t false), some (.str "depth"), some (.int b.d), some x], rfl, ?_, rfl⟩
    simp [mCallF, mFill, fill, (g.pl x hx).sh.fz, is_placed x (g.pl x hx), afterC, pickL, putBack]) (by have := g.len; simp; omega)
  simp [f1, f2, hf, oIsi, bty, ty_lst, okT, h1, h2, mFor, mCallF, mFill, fill, sz, afterC, pickL, putBack, szOk, szl, oZip, zipD, loop, gBody, is_whole b.w g.w, is_whole b.h g.h, is_whole b.d g.d, bf4, mLc, wipeR, hm, oAll, all_true (l := b.ms) rfl]
end Qk52
end

section
set_option linter.all false
set_option maxHeartbeats 4000000
namespace Qk52
open PySem PySem.Spec PyProof.Rows L2 T
/-! ### marks moved, boxes together -/
def mvD (dx dy : Int) : D → D
  | .tup [.int a, .int b, m] => .tup [.int (a + dx), .int (b + dy), m]
  | d => d
theorem Sh.mv {dx dy : Int} {d : D} (h : Sh d) : Sh (mvD dx dy d) := by
  obtain ⟨a, b, m, hm, rfl⟩ := h
  exact ⟨_, _, m, hm, rfl⟩
theorem mvD_GP {B C E dx dy : Int} {d : D} (h : GP B d) (hx : WB C dx) (hy : WB C dy) (hE : B + C ≤ E) : GP E (mvD dx dy d) := by
  obtain ⟨a, b, m, sa, sb, hm, rfl⟩ := h
  unfold WB at *
  exact ⟨a + dx, b + dy, m, ⟨by omega, by omega⟩, ⟨by omega, by omega⟩, hm, rfl⟩
/-- a comprehension over marks that moves them -/
theorem lc_marks {te : Ro → R D} {dx dy : Int} {ms : List D} {i j k : Nat} {ρ0 : Ro} (h : ∀ e ∈ ms, Sh e) (hl : ms.length < 500) (hw : ∀ a b c, wipeR (((ρ0.set i (some a)).set j (some b)).set k (some c)) [i, j, k] = ρ0)
    (te_ok : ∀ (a b : Int) (m : D), T.fz m = m → te (((ρ0.set i (some (.int a))).set j (some (.int b))).set k (some m)) = .ok (.tup [.int (a + dx), .int (b + dy), m]) (((ρ0.set i (some (.int a))).set j (some (.int b))).set k (some m))) :
    lcLoop (gTupD 3 (gsCons (gSet i) (gsCons (gSet j) (gsCons (gSet k) gsNil)))) mYes te [i, j, k] ms [] ρ0 = .ok (.lst true (ms.map (mvD dx dy))) ρ0 := by
  have := lcMap (g := gTupD 3 (gsCons (gSet i) (gsCons (gSet j) (gsCons (gSet k) gsNil)))) (te := te) (own := [i, j, k]) (f := mvD dx dy) ms [] ρ0 (fun d hd => by
    obtain ⟨a, b, m, hm, rfl⟩ := h d hd
    exact ⟨_, _, by simp, te_ok a b m (fz_M hm), hw _ _ _⟩) (by simp; omega)
  simpa using this
theorem marks_moved (o : Bool) (b : Bx) (g : b.sh) (dx dy : Int) : F_marks_moved [b.t o, .int dx, .int dy] = .ok (.lst true (b.ms.map (mvD dx dy))) [] := by
  unfold F_marks_moved m_marks_moved
  have e : start0 N_marks_moved [b.t o, .int dx, .int dy] = [some (b.t o), some (.int dx), some (.int dy), none, none, none] := rfl
  rw [e]
  have hm := lc_marks (te := mN oTup (mCons (m2 oAddA (mV 3) (mV 1)) (mCons (m2 oAddA (mV 4) (mV 2)) (mCons (mV 5) mNil)))) (dx := dx) (dy := dy) (i := 3) (j := 4) (k := 5) (ρ0 := [some (b.t false), some (.int dx), some (.int dy), none, none, none]) g.pl g.len (fun _ _ _ => rfl) (fun a c m hm => by
    simp [hm, szOk, szl])
  have hf := Bx.fz (o := o) g
  simp [hf, bf4, mLc, wipeR, Sh.fzs g.pl, hm]
/-- boxes with their places -/
structure Pl where
  b : Bx
  x : Int
  y : Int
def Pl.t (p : Pl) : D := .tup [p.b.t false, .int p.x, .int p.y]
def allMs (ps : List Pl) : List D := ps.flatMap fun p => p.b.ms.map (mvD p.x p.y)
theorem together_loop {w h d pl : D} : ∀ {ps : List Pl} {acc : List D} {o1 o2 o3 : Option D}, (∀ p ∈ ps, p.b.sh) → acc.length + (allMs ps).length < 1000 →
    ∃ o1' o2' o3', loop (gBody (gTupD 3 (gsCons (gSet 5) (gsCons (gSet 6) (gsCons (gSet 7) gsNil)))) (mMut 4 fExtO (mCallF [none, none, none] [] [] F_marks_moved (mCons (mV 5) (mCons (mV 6) (mCons (mV 7) mNil)))))) (ps.map Pl.t) [some w, some h, some d, some pl, some (.lst true acc), o1, o2, o3] = .nx [some w, some h, some d, some pl, some (.lst true (acc ++ allMs ps)), o1', o2', o3']
  | [], acc, o1, o2, o3, _, _ => ⟨o1, o2, o3, by simp [loop, allMs]⟩
  | p :: ps, acc, o1, o2, o3, hp, hl => by
    have g := hp p List.mem_cons_self
    have hms := marks_moved false p.b g p.x p.y
    have hlen : acc.length + p.b.ms.length + (allMs ps).length < 1000 := by
      have : (allMs (p :: ps)).length = p.b.ms.length + (allMs ps).length := by simp [allMs]
      omega
    obtain ⟨a1, a2, a3, ih⟩ := together_loop (w := w) (h := h) (d := d) (pl := pl) (ps := ps) (acc := acc ++ p.b.ms.map (mvD p.x p.y)) (o1 := some (p.b.t false)) (o2 := some (.int p.x)) (o3 := some (.int p.y)) (fun q hq => hp q (List.mem_cons_of_mem _ hq)) (by simp; omega)
    refine ⟨a1, a2, a3, ?_⟩
    have hf := Bx.fz (o := false) g
    have hz : acc.length + p.b.ms.length ≤ sizeLine := szl (by omega)
    rw [List.map_cons]
    unfold loop
    simp [gBody, Pl.t, mMut, mCallF, mFill, T.fill, hf, hms, afterC, pickL, putBack, fExtO, szOk, hz]
    rw [ih]
    simp [allMs]
theorem clean_in {lo hi : Int} : ∀ {es : List D}, (∀ e ∈ es, IntIn lo hi e) → cleans es = true
  | [], _ => rfl
  | e :: es, h => by
    obtain ⟨i, rfl, _⟩ := h e List.mem_cons_self
    show (clean (.int i) && cleans es) = true
    rw [clean_in fun x hx => h x (List.mem_cons_of_mem _ hx)]
    rfl
theorem clean_M {m : D} (h : GoodM m) : clean m = true := by
  obtain ⟨sp, hl, hs, h | h⟩ := h.ex
  · obtain ⟨a, b, _, _, rfl⟩ := h
    simp [clean, cleans, clean_in hs]
  · obtain ⟨f, s, ⟨f, rfl, _⟩, ⟨s, rfl, _⟩, rfl⟩ := h
    simp [clean, cleans, clean_in hs]
theorem clean_Sh : ∀ {es : List D}, (∀ e ∈ es, Sh e) → cleans es = true
  | [], _ => rfl
  | e :: es, h => by
    obtain ⟨a, b, m, hm, rfl⟩ := h e List.mem_cons_self
    have := clean_Sh (es := es) fun x hx => h x (List.mem_cons_of_mem _ hx)
    simp [cleans, clean, clean_M hm, this]
theorem Bx.clean {b : Bx} (g : b.sh) : T.clean (b.t true) = true := by simp [Bx.t, boxD, T.clean, cleans, clean_Sh g.pl]
theorem fzs_pls : ∀ {ps : List Pl}, (∀ p ∈ ps, p.b.sh) → fzs (ps.map Pl.t) = ps.map Pl.t
  | [], _ => rfl
  | p :: ps, h => by
    rw [List.map_cons, fzs_cons, fzs_pls fun q hq => h q (List.mem_cons_of_mem _ hq)]
    have := Bx.fz (o := false) (h p List.mem_cons_self)
    simp [Pl.t, this]
theorem allMs_sh : ∀ {ps : List Pl}, (∀ p ∈ ps, p.b.sh) → ∀ e ∈ allMs ps, Sh e := by
  intro ps h e he
  obtain ⟨p, hp, he⟩ := List.mem_flatMap.mp he
  obtain ⟨x, hx, rfl⟩ := List.mem_map.mp he
  exact ((h p hp).pl x hx).mv
theorem together_box (w h d : Int) (ps : List Pl) (hp : ∀ p ∈ ps, p.b.sh) (hlen : (allMs ps).length < 500) (o : Bool) : F_together_box [.int w, .int h, .int d, .lst o (ps.map Pl.t)] = .ok ((Bx.mk w h d (allMs ps)).t true) [] := by
  unfold F_together_box m_together_box
  have e : start0 N_together_box [.int w, .int h, .int d, .lst o (ps.map Pl.t)] = [some (.int w), some (.int h), some (.int d), some (.lst o (ps.map Pl.t)), none, none, none, none] := rfl
  rw [e]
  have hf := fzs_pls hp
  have g : (Bx.mk w h d (allMs ps)).sh := ⟨allMs_sh hp, hlen⟩
  have hg : fzs (allMs ps) = allMs ps := Sh.fzs g.pl
  obtain ⟨a1, a2, a3, lp⟩ := together_loop (w := .int w) (h := .int h) (d := .int d) (pl := .lst false (ps.map Pl.t)) (ps := ps) (acc := []) (o1 := none) (o2 := none) (o3 := none) hp (by simp; omega)
  have hb := box_init w h d false (allMs ps)
  rw [hg] at hb
  have hc := Bx.clean g
  have hb' : F_Boxdd_initdd [.ins true 6 [] [], .int w, .int h, .int d, .lst false (allMs ps)] = .ok .non [(Bx.mk w h d (allMs ps)).t true] := hb
  generalize Bx.t true (Bx.mk w h d (allMs ps)) = r at *
  simp [hf, szOk, szl, mFor, lp, mB_app, mMake, hg, hb', afterM, hc]
/-! ### equal boxes -/
def DepD (k : Nat) (d : D) : Prop := ∃ x, toPy d = some x ∧ x.depth ≤ k
theorem DepD.mono {k l : Nat} {d : D} (h : DepD k d) (h2 : k ≤ l) : DepD l d := by
  obtain ⟨x, e, f⟩ := h
  exact ⟨x, e, Nat.le_trans f h2⟩
theorem deps_py {k : Nat} : ∀ {es : List D}, (∀ e ∈ es, DepD k e) → ∃ xs, toPys es = some xs ∧ PyData.depthAll xs ≤ k
  | [], _ => ⟨[], rfl, Nat.zero_le _⟩
  | e :: es, h => by
    obtain ⟨x, e1, f⟩ := h e List.mem_cons_self
    obtain ⟨xs, e2, fs⟩ := deps_py (es := es) fun y hy => h y (List.mem_cons_of_mem _ hy)
    refine ⟨x :: xs, by simp [toPys, e1, e2], ?_⟩
    rw [PyData.depthAll.eq_def]
    simp
    omega
theorem depD_tup {k : Nat} {es : List D} (h : ∀ e ∈ es, DepD k e) : DepD (k + 1) (.tup es) := by
  obtain ⟨xs, e, f⟩ := deps_py h
  exact ⟨.tuple xs, by simp [toPy, e], by rw [PyData.depth.eq_def]; simp; omega⟩
theorem depD_lst {k : Nat} {o : Bool} {es : List D} (h : ∀ e ∈ es, DepD k e) : DepD (k + 1) (.lst o es) := by
  obtain ⟨xs, e, f⟩ := deps_py h
  exact ⟨.list xs, by simp [toPy, e], by rw [PyData.depth.eq_def]; simp; omega⟩
theorem depD_int {i : Int} {k : Nat} : DepD k (.int i) := ⟨_, rfl, by rw [PyData.depth.eq_def]; exact Nat.zero_le _⟩
theorem depD_str {i : Str} {k : Nat} : DepD k (.str i) := ⟨_, rfl, by rw [PyData.depth.eq_def]; exact Nat.zero_le _⟩
theorem depD_non {k : Nat} : DepD k .non := ⟨_, rfl, by rw [PyData.depth.eq_def]; exact Nat.zero_le _⟩
theorem depD_M {m : D} (h : GoodM m) : DepD 2 m := by
  obtain ⟨sp, hl, hs, h | h⟩ := h.ex
  · obtain ⟨a, b, _, _, rfl⟩ := h
    refine depD_tup fun e he => ?_
    simp only [List.mem_cons, List.not_mem_nil, or_false] at he
    rcases he with rfl | rfl | rfl | rfl
    · exact depD_str
    · exact depD_tup fun e he => by obtain ⟨i, rfl, _⟩ := hs e he; exact depD_int
    · exact depD_int
    · exact depD_int
  · obtain ⟨f, s, ⟨f, rfl, _⟩, ⟨s, rfl, _⟩, rfl⟩ := h
    refine depD_tup fun e he => ?_
    simp only [List.mem_cons, List.not_mem_nil, or_false] at he
    rcases he with rfl | rfl | rfl | rfl | rfl
    · exact depD_str
    · exact depD_tup fun e he => by obtain ⟨i, rfl, _⟩ := hs e he; exact depD_int
    · exact depD_int
    · exact depD_int
    · exact depD_str
theorem depD_P {d : D} (h : Sh d) : DepD 3 d := by
  obtain ⟨a, b, m, hm, rfl⟩ := h
  refine depD_tup fun e he => ?_
  simp only [List.mem_cons, List.not_mem_nil, or_false] at he
  rcases he with he | he | he
  · rw [he]; exact depD_int
  · rw [he]; exact depD_int
  · rw [he]; exact depD_M hm
theorem depD_ms {o : Bool} {ms : List D} (h : ∀ e ∈ ms, Sh e) : DepD 4 (.lst o ms) := depD_lst fun e he => depD_P (h e he)
theorem oEq_self {d : D} {x : PyData} {ρ : Ro} (h : toPy d = some x) (hf : flat x = true) : oEq d d ρ = .ok (.bl true) ρ := by
  unfold oEq
  rw [h]
  simp [hf, SeqAt.eqv_refl_plain x (toPy_plain h)]
theorem oNe_self {d : D} {x : PyData} {ρ : Ro} (h : toPy d = some x) (hf : flat x = true) : oNe d d ρ = .ok (.bl false) ρ := by
  unfold oNe
  rw [h]
  simp [hf, SeqAt.eqv_refl_plain x (toPy_plain h)]
theorem eq_same {k : Nat} {d : D} {ρ : Ro} (h : DepD k d) (hk : k ≤ 60) : oEq d d ρ = .ok (.bl true) ρ := by
  obtain ⟨x, e, f⟩ := h
  exact oEq_self e (by unfold flat; exact decide_eq_true (Nat.le_trans f hk))
theorem ne_same {k : Nat} {d : D} {ρ : Ro} (h : DepD k d) (hk : k ≤ 60) : oNe d d ρ = .ok (.bl false) ρ := by
  obtain ⟨x, e, f⟩ := h
  exact oNe_self e (by unfold flat; exact decide_eq_true (Nat.le_trans f hk))
theorem sizes3 {w h d : Int} : DepD 1 (.tup [.int w, .int h, .int d]) := depD_tup fun e he => by
  simp only [List.mem_cons, List.not_mem_nil, or_false] at he
  rcases he with he | he | he <;> rw [he] <;> exact depD_int
theorem box_eq (o p : Bool) (b : Bx) (g : b.sh) : F_Boxdd_eqdd [b.t o, b.t p] = .ok (.bl true) [] := by
  unfold F_Boxdd_eqdd m_Boxdd_eqdd
  have e : start0 N_Boxdd_eqdd [b.t o, b.t p] = [some (b.t o), some (b.t p)] := rfl
  rw [e]
  have h1 : isOne kitCs (.o 6) (.cls 6) = some true := by decide +kernel
  have hf := Bx.fz (o := o) g
  have hp := Bx.fz (o := p) g
  have hq := Bx.fz (o := false) g
  have hs : F_sizes_of [b.t false] = .ok (.tup [.int b.w, .int b.h, .int b.d]) [] := sizes_of false b.w b.h b.d b.ms
  have n1 := fun ρ => ne_same (ρ := ρ) (sizes3 (w := b.w) (h := b.h) (d := b.d)) (by decide)
  have e1 := fun ρ => eq_same (ρ := ρ) (depD_ms (o := false) g.pl) (by decide)
  simp [hf, hp, hq, oIsi, bty, okT, h1, mCallF, mFill, T.fill, hs, afterC, pickL, putBack, n1, e1, bf4]
theorem own_ne {b : Bx} (g : b.sh) (o p : Bool) (ρ : Ro) : oOwn 6 F_Boxdd_eqdd (!·) (b.t o) (b.t p) ρ = .ok (.bl false) ρ := by
  have e := box_eq o p b g
  unfold Bx.t boxD at e ⊢
  simp only [oOwn, and_self, if_true]
  rw [e]
  rfl
end Qk52
end

section
set_option linter.all false
set_option maxHeartbeats 4000000
namespace Qk52
open PySem L2 T
/-! ### numbers of fonts -/
structure Wd where
  A : List D
  B : List D
  C : List D
  S : List D
structure Wd.ok (W : Wd) (g : Int) : Prop where
  nA : W.A.length = 23
  nB : W.B.length = 23
  nC : W.C.length = 23
  nS : W.S.length = 11
  vA : ∀ v ∈ W.A, Bv g v
  vB : ∀ v ∈ W.B, Bv g v
  vC : ∀ v ∈ W.C, Bv g v
  vS : ∀ v ∈ W.S, Bv g v
  g0 : 0 < g
  g1 : g ≤ 10 ^ 40
/-- the number at a word -/
def rowV (ws : List Str) (vs : List D) (w : Str) : Int := match valD ((ws.map Sum.inr).zip vs) (.inr w) with
  | some (.int i) => i
  | _ => 0
def NB (g i : Int) : Prop := 0 ≤ i ∧ i ≤ 1009 * g + 2
theorem rowV_ok {g : Int} {ws : List Str} {vs : List D} (hl : ws.length = vs.length) (hv : ∀ v ∈ vs, Bv g v) {w : Str} (hw : w ∈ ws) : valD ((ws.map (Sum.inr : Str → Key)).zip vs) (.inr w) = some (.int (rowV ws vs w)) ∧ NB g (rowV ws vs w) := by
  obtain ⟨v, hm, e⟩ := val_row hl hw
  obtain ⟨i, rfl, h0, h1⟩ := hv v hm
  have q : rowV ws vs w = i := by unfold rowV; rw [e]
  rw [q]
  exact ⟨e, h0, h1⟩
def Wd.row (W : Wd) (sz : Int) : List D := if sz = 0 then W.A else if sz = 1 then W.B else W.C
def Wd.num (W : Wd) (sz : Int) (w : Str) : Int := rowV W1 (W.row sz) w
def Wd.set (W : Wd) (w : Str) : Int := rowV W2 W.S w
section
variable {W : Wd} {g : Int} (k : W.ok g)
include k
theorem Wd.ok.row_len (sz : Int) : (W.row sz).length = 23 := by
  unfold Wd.row
  split
  · exact k.nA
  · split
    · exact k.nB
    · exact k.nC
theorem Wd.ok.row_v (sz : Int) : ∀ v ∈ W.row sz, Bv g v := by
  unfold Wd.row
  split
  · exact k.vA
  · split
    · exact k.vB
    · exact k.vC
theorem Wd.ok.num_b (sz : Int) {w : Str} (hw : w ∈ W1) : NB g (W.num sz w) := (rowV_ok (by rw [k.row_len]; rfl) (k.row_v sz) hw).2
theorem Wd.ok.set_b {w : Str} (hw : w ∈ W2) : NB g (W.set w) := (rowV_ok (by rw [k.nS]; rfl) k.vS hw).2
theorem Wd.ok.ix_row (sz : Int) {w : Str} (hw : w ∈ W1) (ρ : Ro) : oIxA (rowF (W.row sz)) (.str w) ρ = .ok (.int (W.num sz w)) ρ := by
  have h := (rowV_ok (by rw [k.row_len]; rfl) (k.row_v sz) hw).1
  show (match valD ((W1.map (Sum.inr : Str → Key)).zip (W.row sz)) (.inr w) with | some d => R.ok d ρ | none => .bad) = _
  rw [h]
  rfl
theorem Wd.ok.ix_sets {w : Str} (hw : w ∈ W2) (ρ : Ro) : oIxA (.dK false (W2.map Sum.inr) W.S) (.str w) ρ = .ok (.int (W.set w)) ρ := by
  have h := (rowV_ok (by rw [k.nS]; rfl) k.vS hw).1
  show (match valD ((W2.map (Sum.inr : Str → Key)).zip W.S) (.inr w) with | some d => R.ok d ρ | none => .bad) = _
  rw [h]
  rfl
theorem Wd.ok.fz_rows (sz : Int) : T.fz (rowF (W.row sz)) = rowF (W.row sz) := fz_rowF (k.row_v sz)
theorem Wd.ok.fz_sets : T.fz (.dK false (W2.map Sum.inr) W.S) = .dK false (W2.map Sum.inr) W.S := by
  show D.dK false _ (T.fzs W.S) = _
  rw [Bv.fzs k.vS]
end
def Wd.f (W : Wd) (o : Bool) : D := fontsD o W.A W.B W.C W.S
def Wd.w (W : Wd) : D := wrldF W.A W.B W.C W.S
theorem rows_at {W : Wd} {sz : Int} (h0 : 0 ≤ sz) (h2 : sz ≤ 2) : L2.atI [rowF W.A, rowF W.B, rowF W.C] sz = some (rowF (W.row sz)) := by
  have h : sz = 0 ∨ sz = 1 ∨ sz = 2 := by omega
  rcases h with rfl | rfl | rfl <;> rfl
theorem of1 {W : Wd} {o : Bool} {ρ : Ro} : oFld [5] "number_rows" (W.f o) ρ = .ok (.tup [rowF W.A, rowF W.B, rowF W.C]) ρ := by
  have n : ¬ (("number_rows" : Str) = "family_rows") := fun e => nf1 e.symm
  simp [Wd.f, fontsD, oFld, look, n, nf1]
theorem of2 {W : Wd} {o : Bool} {ρ : Ro} : oFld [5] "setting_rows" (W.f o) ρ = .ok (.dK o (W2.map Sum.inr) W.S) ρ := by
  have n : ¬ (("setting_rows" : Str) = "family_rows") := fun e => nf2 e.symm
  have n' : ¬ (("setting_rows" : Str) = "number_rows") := fun e => nf4 e.symm
  simp [Wd.f, fontsD, oFld, look, n, n']
section
variable {W : Wd} {g : Int} (k : W.ok g)
include k
theorem Wd.ok.fz_f (o : Bool) : T.fz (W.f o) = W.f false := by
  have e : T.fz (W.f o) = .ins false 5 fsFonts [T.fz (.lst o [.tup [face0, face0, face0]]), T.fz (.tup [rowF W.A, rowF W.B, rowF W.C]), T.fz (.dK o (W2.map Sum.inr) W.S), .non] := rfl
  have e2 : T.fz (.dK o (W2.map Sum.inr) W.S) = T.fz (.dK false (W2.map Sum.inr) W.S) := rfl
  rw [e, e2, k.fz_sets, fz_tup, fzs_cons, fzs_cons, fzs_cons, fzs_nil, fz_rowF k.vA, fz_rowF k.vB, fz_rowF k.vC]
  rfl
theorem Wd.ok.fz_w : T.fz W.w = W.w := fz_wrldF ⟨k.vA, k.vB, k.vC⟩ k.vS
theorem Wd.ok.amount {sz : Int} (h0 : 0 ≤ sz) (h2 : sz ≤ 2) {w : Str} (hw : w ∈ W1) : F_Fonts_amount [W.f false, .int sz, .str w] = .ok (.int (W.num sz w)) [] := by
  have f := k.fz_f false
  have i1 : ∀ ρ, oFld [5] "number_rows" (W.f false) ρ = .ok (.tup [rowF W.A, rowF W.B, rowF W.C]) ρ := fun ρ => of1
  have i2 := rows_at (W := W) h0 h2
  have i3 := k.ix_row sz hw
  have fa := fz_rowF k.vA
  have fb := fz_rowF k.vB
  have fc := fz_rowF k.vC
  unfold F_Fonts_amount m_Fonts_amount
  have e : start0 N_Fonts_amount [W.f false, .int sz, .str w] = [some (W.f false), some (.int sz), some (.str w)] := rfl
  rw [e]
  generalize W.f false = fo at *
  generalize rowF W.A = a at *
  generalize rowF W.B = b at *
  generalize rowF W.C = c at *
  generalize rowF (W.row sz) = r at *
  simp [f, i1, fa, fb, fc, i2, i3]
end
theorem recv1 {W : Wd} : isRecv 5 "amount" (W.f false) = true := by
  show ((5 : Nat) == 5 && !(fsFonts.contains ("amount" : Str))) = true
  decide +kernel
theorem tyF {W : Wd} {o : Bool} : tyT (W.f o) = some (.o 5) := rfl
/-- what the functions ask of fonts -/
structure Fo (fo : D) (W : Wd) (g : Int) : Prop where
  k : W.ok g
  fz : T.fz fo = fo
  amt : ∀ (sz : Int) (w : Str), 0 ≤ sz → sz ≤ 2 → w ∈ W1 → F_Fonts_amount [fo, .int sz, .str w] = .ok (.int (W.num sz w)) []
  r1 : isRecv 5 "amount" fo = true
  ty : tyT fo = some (.o 5)
theorem Wd.ok.fo {W : Wd} {g : Int} (k : W.ok g) : Fo (W.f false) W g := ⟨k, k.fz_f false, fun _ _ h0 h2 hw => k.amount h0 h2 hw, recv1, tyF⟩
/-! ### styles -/
def szOf (s : Int) : Int := max 0 (s / 2 - 1)
theorem szOf_b {s : Int} (h0 : 0 ≤ s) (h7 : s ≤ 7) : 0 ≤ szOf s ∧ szOf s ≤ 2 := by unfold szOf; omega
theorem size_of (s : Int) : F_size_of [.int s] = .ok (.int (szOf s)) [] := by
  unfold F_size_of m_size_of szOf
  have e : start0 N_size_of [.int s] = [some (.int s)] := rfl
  rw [e]
  simp [oMax2, log2_lit]
  split <;> omega
theorem eight {s : Int} (h0 : 0 ≤ s) (h7 : s ≤ 7) : s = 0 ∨ s = 1 ∨ s = 2 ∨ s = 3 ∨ s = 4 ∨ s = 5 ∨ s = 6 ∨ s = 7 := by omega
theorem check_style {s : Int} (h0 : 0 ≤ s) (h7 : s ≤ 7) : F_check_style [.int s] = .ok .non [] := by
  unfold F_check_style m_check_style
  have e : start0 N_check_style [.int s] = [some (.int s)] := rfl
  rw [e]
  simp [mCallF, mFill, fill, is_between s 0 7 h0 h7, afterC, pickL, putBack]
theorem check_fonts {fo : D} {W : Wd} {g : Int} (k : Fo fo W g) : F_check_fonts [fo] = .ok .non [] := by
  have f := k.fz
  have t := k.ty
  unfold F_check_fonts m_check_fonts
  have e : start0 N_check_fonts [fo] = [some fo] := rfl
  rw [e]
  have h1 : isOne kitCs (.o 5) (.cls 5) = some true := by decide +kernel
  simp [f, oIsi, t, okT, h1]
end Qk52
end

section
set_option linter.all false
set_option maxHeartbeats 4000000
namespace Qk52
open PySem L2 T
/-! ### a drawn box, by formulas -/
def bwI (dg : List D) (g : Int) : Int := if digAt dg 1 % 8 = 0 then 0 - szV dg g 0 / 3 else szV dg g 0
def bhI (dg : List D) (g : Int) : Int := if digAt dg 3 % 9 = 1 then 0 - szV dg g 1 / 4 else szV dg g 1
def bdI (dg : List D) (g : Int) : Int := if digAt dg 3 % 9 % 4 = 0 then szV dg g 2 else if digAt dg 3 % 9 % 4 = 1 then szV dg g 2 / 2 else if digAt dg 3 % 9 % 4 = 2 then 0 - szV dg g 2 / 5 else 0
def bMs (dg : List D) (g t : Int) : List D := [ruleM dg t (bwI dg g), .tup [.int 0, .int 0, .tup [.str "glyph", .tup [.int t], .int (t % 4), .int (digAt dg 4 % 3), .str "x"]]]
def bxOf (dg : List D) (g t : Int) : Bx := ⟨bwI dg g, bhI dg g, bdI dg g, bMs dg g t⟩
theorem bx_ok {dg : List D} {g t : Int} (h0 : 0 < g) (h1 : g ≤ 10 ^ 41) (t0 : 0 ≤ t) (t1 : t < 100) : (bxOf dg g t).ok (10 ^ 44) := by
  have a0 := szV_b (dg := dg) h0 0
  have a1 := szV_b (dg := dg) h0 1
  have a2 := szV_b (dg := dg) h0 2
  have w : WB (10 ^ 44) (bwI dg g) := by unfold bwI WB; split <;> omega
  refine ⟨w, by show WB _ (bhI dg g); unfold bhI WB; split <;> omega, by show WB _ (bdI dg g); unfold bdI WB; repeat' split; all_goals omega, ?_, by show 2 < 500; decide⟩
  intro e he
  have he : e ∈ bMs dg g t := he
  unfold bMs ruleM at he
  simp only [List.mem_cons, List.not_mem_nil, or_false] at he
  unfold WB at w
  have m1 := Int.emod_nonneg (digAt dg 4) (by decide : (9 : Int) ≠ 0)
  have m2 := Int.emod_lt_of_pos (digAt dg 4) (by decide : (0 : Int) < 9)
  have m3 := Int.emod_nonneg (digAt dg 3) (by decide : (7 : Int) ≠ 0)
  have m4 := Int.emod_lt_of_pos (digAt dg 3) (by decide : (0 : Int) < 7)
  rcases he with rfl | rfl
  · refine ⟨_, _, _, ⟨by omega, by omega⟩, ⟨by omega, by omega⟩, ⟨[.int t, .int 1], by simp, ?_, .inl ⟨_, _, ⟨by omega, by omega⟩, ⟨by omega, by omega⟩, rfl⟩⟩, rfl⟩
    intro e he
    simp only [List.mem_cons, List.not_mem_nil, or_false] at he
    rcases he with rfl | rfl
    · exact ⟨_, rfl, by omega, by omega⟩
    · exact ⟨_, rfl, by omega, by omega⟩
  · refine ⟨_, _, _, ⟨by omega, by omega⟩, ⟨by omega, by omega⟩, ⟨[.int t], by simp, ?_, .inr ⟨_, _, ⟨_, rfl, by omega, by omega⟩, ⟨_, rfl, by omega, by omega⟩, rfl⟩⟩, rfl⟩
    intro e he
    simp only [List.mem_cons, List.not_mem_nil, or_false] at he
    rcases he with rfl
    exact ⟨_, rfl, by omega, by omega⟩
theorem box1o {dg : List D} (hd : ∀ d ∈ dg, Dg d) (hl : 5 ≤ dg.length) {g : Int} {o : Bool} {o2 o3 o4 o5 o6 o7 : Option D} : b1 [some (.lst o dg), some (.int g), o2, o3, o4, o5, o6, o7, none] = .nx [some (.lst false dg), some (.int g), o2, some (.int (szV dg g 0)), o4, o5, some (.int (szV dg g 1)), some (.int (szV dg g 2)), none] := by
  have f := Dg.fzs hd
  have hin : inRng 3 = true := by decide
  have rg : rng 0 3 = [.int 0, .int 1, .int 2] := rfl
  have e0 := (digAt_in hd (t := 0) (by decide) (by omega)).1
  have e1 := (digAt_in hd (t := 1) (by decide) (by omega)).1
  have e2 := (digAt_in hd (t := 2) (by decide) (by omega)).1
  have q := fun x => mulOk_mod (x := x) (y := g) (m := 700) (by decide) (by decide)
  have z1 : 1 < sizeLine := Nat.lt_of_lt_of_le (by decide : 1 < 1000) (szl (Nat.le_refl _))
  have z2 : 2 < sizeLine := Nat.lt_of_lt_of_le (by decide : 2 < 1000) (szl (Nat.le_refl _))
  have z0 : 0 < sizeLine := Nat.lt_of_lt_of_le (by decide : 0 < 1000) (szl (Nat.le_refl _))
  simp [mLc, oRange, hin, rg, lcLoop, wipeR, mYes, f, e0, e1, e2, oInt, q, z0, z1, z2, gUnlD, szV]
theorem law_box {dg : List D} (hd : ∀ d ∈ dg, Dg d) (hl : 5 ≤ dg.length) (g t : Int) (o : Bool) : F_law_box [.lst o dg, .int g, .int t] = .ok ((bxOf dg g t).t true) [] := by
  unfold F_law_box m_law_box
  have e : start0 N_law_box [.lst o dg, .int g, .int t] = [some (.lst o dg), some (.int g), some (.int t), none, none, none, none, none, none] := rfl
  rw [e]
  change toRF [] (mSeq b1 (mSeq b2 (mSeq b3 (mSeq b4 (mSeq b5 _)))) _) = _
  rw [mSeq_nx (box1o hd hl)]
  have f := Dg.fzs hd
  have d1 := (digAt_in hd (t := 1) (by decide) (by omega)).1
  have d3 := (digAt_in hd (t := 3) (by decide) (by omega)).1
  have d4 := (digAt_in hd (t := 4) (by decide) (by omega)).1
  have s2 : ∀ {o4 o5 o6 o7 : Option D}, b2 [some (.lst false dg), some (.int g), some (.int t), some (.int (szV dg g 0)), o4, o5, o6, o7, none] = .nx [some (.lst false dg), some (.int g), some (.int t), some (.int (bwI dg g)), o4, o5, o6, o7, none] := fun {o4 o5 o6 o7} => by
    unfold bwI
    by_cases c : digAt dg 1 % 8 = 0
    · simp [f, d1, oInt, oEq_int, c, log2_lit, szOk, szl, i2_1]
    · simp [f, d1, oInt, oEq_int, c, log2_lit, szOk, szl, i2_0]
  rw [mSeq_nx s2, mSeq_nx (box3 hd hl)]
  have s4 : ∀ {o5 : Option D}, b4 [some (.lst false dg), some (.int g), some (.int t), some (.int (bwI dg g)), some (.int (digAt dg 3 % 9)), o5, some (.int (szV dg g 1)), some (.int (szV dg g 2)), none] = .nx [some (.lst false dg), some (.int g), some (.int t), some (.int (bwI dg g)), some (.int (digAt dg 3 % 9)), o5, some (.int (bhI dg g)), some (.int (bdI dg g)), none] := fun {o5} => by
    have m0 : 0 ≤ digAt dg 3 % 9 % 4 := Int.emod_nonneg _ (by decide)
    have m4 : digAt dg 3 % 9 % 4 < 4 := Int.emod_lt_of_pos _ (by decide)
    have ee : L2.atI [D.int (szV dg g 2), .int (szV dg g 2 / 2), .int (-(szV dg g 2 / 5)), .int 0] (digAt dg 3 % 9 % 4) = some (.int (bdI dg g)) := by
      unfold bdI
      generalize digAt dg 3 % 9 % 4 = q at *
      have : q = 0 ∨ q = 1 ∨ q = 2 ∨ q = 3 := by omega
      rcases this with rfl | rfl | rfl | rfl
      · rfl
      · rfl
      · simp
        rfl
      · rfl
    unfold bhI
    generalize digAt dg 3 % 9 = s at *
    by_cases c : s = 1
    · subst c
      have ee' : L2.atI [D.int (szV dg g 2), .int (szV dg g 2 / 2), .int (-(szV dg g 2 / 5)), .int 0] 1 = some (.int (bdI dg g)) := ee
      simp [oInt, oEq_int, log2_lit, szOk, szl, i2_1, ee']
    · simp [oInt, oEq_int, c, log2_lit, szOk, szl, i2_0, ee]
  rw [mSeq_nx s4, mSeq_nx (box5 hd hl)]
  have bi := box_init (bwI dg g) (bhI dg g) (bdI dg g) false (bMs dg g t)
  have fm : T.fzs (bMs dg g t) = bMs dg g t := rfl
  rw [fm] at bi
  have bi' : F_Boxdd_initdd [.ins true 6 [] [], .int (bwI dg g), .int (bhI dg g), .int (bdI dg g), .lst true (bMs dg g t)] = .ok .non [(bxOf dg g t).t true] := by
    have := box_init (bwI dg g) (bhI dg g) (bdI dg g) true (bMs dg g t)
    rw [fm] at this
    exact this
  unfold bMs ruleM at bi'
  unfold ruleM
  simp [f, d4, oInt, log2_lit, szOk, szl, mMake, bi', afterM]
end Qk52
end

section
set_option linter.all false
set_option maxHeartbeats 4000000
namespace Qk52
open PySem L2 T
theorem mv00 {e : D} (h : Sh e) : mvD 0 0 e = e := by
  obtain ⟨a, b, m, hm, rfl⟩ := h
  simp [mvD]
theorem map_mv00 : ∀ {es : List D}, (∀ e ∈ es, Sh e) → es.map (mvD 0 0) = es
  | [], _ => rfl
  | e :: es, h => by rw [List.map_cons, mv00 (h e List.mem_cons_self), map_mv00 fun x hx => h x (List.mem_cons_of_mem _ hx)]
/-- boxes that differ in how many marks they have -/
theorem all_ne : ∀ {xs ys : List PyData}, xs.length ≠ ys.length → PyData.eqvAll xs ys = false
  | [], [], h => absurd rfl h
  | [], _ :: _, _ => by simp only [PyData.eqvAll]
  | _ :: _, [], _ => by simp only [PyData.eqvAll]
  | x :: xs, y :: ys, h => by rw [PyData.eqvAll, all_ne (xs := xs) (ys := ys) fun e => h (congrArg (· + 1) e), Bool.and_false]
theorem toPys_len : ∀ {ds : List D} {xs : List PyData}, toPys ds = some xs → xs.length = ds.length
  | [], xs, h => by cases h; rfl
  | d :: ds, xs, h => by
    unfold toPys at h
    split at h
    · rename_i a as e1 e2
      cases h
      rw [List.length_cons, List.length_cons, toPys_len e2]
    · cases h
theorem dep_flat {k : Nat} {x : PyData} (h : x.depth ≤ k) (hk : k ≤ 60) : flat x = true := by unfold flat; exact decide_eq_true (Nat.le_trans h hk)
theorem ms_ne {xs ys : List D} (hx : ∀ e ∈ xs, Sh e) (hy : ∀ e ∈ ys, Sh e) (hn : xs.length ≠ ys.length) (o p : Bool) (ρ : Ro) : oEq (.lst o xs) (.lst p ys) ρ = .ok (.bl false) ρ := by
  obtain ⟨x, e1, f1⟩ := depD_ms (o := o) hx
  obtain ⟨y, e2, f2⟩ := depD_ms (o := p) hy
  obtain ⟨as, a1, a2⟩ : ∃ as, toPys xs = some as ∧ x = .list as := by
    have : toPy (.lst o xs) = (toPys xs).map PyData.list := rfl
    rw [this] at e1
    obtain ⟨as, h1, h2⟩ := Option.map_eq_some_iff.mp e1
    exact ⟨as, h1, h2.symm⟩
  obtain ⟨bs, b1, b2⟩ : ∃ as, toPys ys = some as ∧ y = .list as := by
    have : toPy (.lst p ys) = (toPys ys).map PyData.list := rfl
    rw [this] at e2
    obtain ⟨as, h1, h2⟩ := Option.map_eq_some_iff.mp e2
    exact ⟨as, h1, h2.symm⟩
  unfold oEq
  rw [e1, e2]
  simp only [dep_flat f1 (by decide), Bool.true_or, if_true]
  subst a2 b2
  rw [PyData.eqv, all_ne (by rw [toPys_len a1, toPys_len b1]; exact hn)]
theorem ne_any {k l : Nat} {c d : D} (h1 : DepD k c) (h2 : DepD l d) (hk : k ≤ 60) (ρ : Ro) : ∃ q, oNe c d ρ = .ok (.bl q) ρ ∧ ∀ ρ', oNe c d ρ' = .ok (.bl q) ρ' := by
  obtain ⟨x, e1, f1⟩ := h1
  obtain ⟨y, e2, f2⟩ := h2
  refine ⟨!PyData.eqv x y, ?_, fun ρ' => ?_⟩
  all_goals unfold oNe; rw [e1, e2]; simp only [dep_flat f1 hk, Bool.true_or, if_true]
theorem box_ne (o p : Bool) (a b : Bx) (ga : a.sh) (gb : b.sh) (hn : a.ms.length ≠ b.ms.length) : F_Boxdd_eqdd [a.t o, b.t p] = .ok (.bl false) [] := by
  unfold F_Boxdd_eqdd m_Boxdd_eqdd
  have e : start0 N_Boxdd_eqdd [a.t o, b.t p] = [some (a.t o), some (b.t p)] := rfl
  rw [e]
  have h1 : isOne kitCs (.o 6) (.cls 6) = some true := by decide +kernel
  have hf := Bx.fz (o := o) ga
  have hp := Bx.fz (o := p) gb
  have hf' := Bx.fz (o := false) ga
  have hp' := Bx.fz (o := false) gb
  have sa : F_sizes_of [a.t false] = .ok (.tup [.int a.w, .int a.h, .int a.d]) [] := sizes_of false a.w a.h a.d a.ms
  have sb : F_sizes_of [b.t false] = .ok (.tup [.int b.w, .int b.h, .int b.d]) [] := sizes_of false b.w b.h b.d b.ms
  obtain ⟨q, _, n1⟩ := ne_any (sizes3 (w := a.w) (h := a.h) (d := a.d)) (sizes3 (w := b.w) (h := b.h) (d := b.d)) (by decide) []
  have m := ms_ne ga.pl gb.pl hn false false
  cases q
  · simp [hf, hp, hf', hp', oIsi, bty, okT, h1, mCallF, mFill, T.fill, sa, sb, afterC, pickL, putBack, n1, bf4, m]
  · simp [hf, hp, hf', hp', oIsi, bty, okT, h1, mCallF, mFill, T.fill, sa, sb, afterC, pickL, putBack, n1, bf4, m]
theorem own_eqF {a b : Bx} (ga : a.sh) (gb : b.sh) (hn : a.ms.length ≠ b.ms.length) (o p : Bool) (ρ : Ro) : oOwn 6 F_Boxdd_eqdd id (a.t o) (b.t p) ρ = .ok (.bl false) ρ := by
  have e := box_ne o p a b ga gb hn
  unfold Bx.t boxD at e ⊢
  simp only [oOwn, and_self, if_true]
  rw [e]
  rfl
theorem own_eqT {b : Bx} (g : b.sh) (o p : Bool) (ρ : Ro) : oOwn 6 F_Boxdd_eqdd id (b.t o) (b.t p) ρ = .ok (.bl true) ρ := by
  have e := box_eq o p b g
  unfold Bx.t boxD at e ⊢
  simp only [oOwn, and_self, if_true]
  rw [e]
  rfl
/-! ### bars -/
def rMk (w t : Int) : D := .tup [.str "rule", .tup [], .int w, .int t]
theorem rMk_good {w t : Int} (h1 : WB (10 ^ 60) w) (h2 : WB (10 ^ 60) t) : GoodM (rMk w t) := ⟨[], by simp, fun e h => by simp at h, .inl ⟨w, t, h1, h2, rfl⟩⟩
def barB (w t : Int) : Bx := ⟨w, t, 0, [.tup [.int 0, .int 0, rMk w t]]⟩
theorem rule_box (w t : Int) : F_rule_box [.tup [], .int w, .int t] = .ok ((barB w t).t true) [] := by
  unfold F_rule_box m_rule_box
  have e : start0 N_rule_box [.tup [], .int w, .int t] = [some (.tup []), some (.int w), some (.int t)] := rfl
  rw [e]
  have bi : F_Boxdd_initdd [.ins true 6 [] [], .int w, .int t, .int 0, .lst true [.tup [.int 0, .int 0, rMk w t]]] = .ok .non [(barB w t).t true] := box_init w t 0 true [.tup [.int 0, .int 0, rMk w t]]
  unfold rMk at bi
  simp [szOk, szl, mMake, bi, afterM]
def ovB (b : Bx) (t : Int) : Bx := ⟨b.w, b.h + 5 * t, b.d, b.ms ++ [.tup [.int 0, .int (b.h + 3 * t), rMk b.w t]]⟩
def unB (b : Bx) (t : Int) : Bx := ⟨b.w, b.h, b.d + 5 * t, b.ms ++ [.tup [.int 0, .int (0 - b.d - 4 * t), rMk b.w t]]⟩
structure Bx.few (n : Nat) (b : Bx) : Prop where
  k : b.ok (10 ^ 50 + n)
  l : b.ms.length ≤ 100 + n
theorem ov_sh {b : Bx} {t : Int} (g : b.sh) (l : b.ms.length < 400) (h1 : WB (10 ^ 60) b.w) (h2 : WB (10 ^ 60) t) : (ovB b t).sh := ⟨fun e he => by
  rcases List.mem_append.mp he with h | h
  · exact g.pl e h
  · rw [List.mem_singleton] at h; rw [h]; exact ⟨_, _, _, rMk_good h1 h2, rfl⟩, by simp [ovB]; omega⟩
theorem un_sh {b : Bx} {t : Int} (g : b.sh) (l : b.ms.length < 400) (h1 : WB (10 ^ 60) b.w) (h2 : WB (10 ^ 60) t) : (unB b t).sh := ⟨fun e he => by
  rcases List.mem_append.mp he with h | h
  · exact g.pl e h
  · rw [List.mem_singleton] at h; rw [h]; exact ⟨_, _, _, rMk_good h1 h2, rfl⟩, by simp [unB]; omega⟩
theorem ov_ok {b : Bx} {t B : Int} (g : b.ok B) (l : b.ms.length < 400) (hB : B ≤ 10 ^ 50) (t0 : 0 ≤ t) (t1 : t ≤ 10 ^ 45) : (ovB b t).ok (B + 10 ^ 46) := by
  have w := g.w
  have h := g.h
  have d := g.d
  unfold WB at w h d
  refine ⟨⟨by show _ ≤ b.w; omega, by show b.w ≤ _; omega⟩, ⟨by show _ ≤ b.h + 5 * t; omega, by show b.h + 5 * t ≤ _; omega⟩, ⟨by show _ ≤ b.d; omega, by show b.d ≤ _; omega⟩, fun e he => ?_, by simp [ovB]; omega⟩
  rcases List.mem_append.mp he with q | q
  · exact (g.pl e q).mono (by omega)
  · rw [List.mem_singleton] at q
    rw [q]
    exact ⟨_, _, _, ⟨by omega, by omega⟩, ⟨by omega, by omega⟩, rMk_good ⟨by omega, by omega⟩ ⟨by omega, by omega⟩, rfl⟩
section
variable {fo : D} {W : Wd} {g : Int} (k : Fo fo W g) {s : Int} (h0 : 0 ≤ s) (h7 : s ≤ 7) {b : Bx} (gb : b.ok (10 ^ 60)) (l : b.ms.length < 400)
include k h0 h7 gb
include l in
theorem over_box : F_over_box [fo, .int s, .tup [], b.t false] = .ok ((ovB b (W.num (szOf s) "rule")).t true) [] := by
  unfold F_over_box m_over_box
  have e : start0 N_over_box [fo, .int s, .tup [], b.t false] = [some fo, some (.int s), some (.tup []), some (b.t false), none, none, none] := rfl
  rw [e]
  have f0 := k.fz
  have f1 := Bx.fz (o := false) gb.sh
  have z := szOf_b h0 h7
  have a := k.amt (szOf s) "rule" z.1 z.2 (by decide +kernel)
  have nb := k.k.num_b (szOf s) (w := "rule") (by decide +kernel)
  have g1 := k.k.g1
  unfold NB at nb
  generalize W.num (szOf s) "rule" = t at *
  have rb := rule_box b.w t
  have rg : GoodM (rMk b.w t) := rMk_good gb.w ⟨by omega, by omega⟩
  have bs : (barB b.w t).sh := ⟨fun e he => by rw [show e = .tup [.int 0, .int 0, rMk b.w t] from List.mem_singleton.mp he]; exact ⟨_, _, _, rg, rfl⟩, by show 1 < 500; decide⟩
  have f2 := Bx.fz (o := true) bs
  have f3 := Bx.fz (o := false) bs
  have t5 := mulOk_left (x := 5) (y := t) (by decide)
  have t3 := mulOk_left (x := 3) (y := t) (by decide)
  have tb := together_box b.w (b.h + 5 * t) b.d [⟨b, 0, 0⟩, ⟨barB b.w t, 0, b.h + 3 * t⟩] (by intro p hp; simp at hp; rcases hp with rfl | rfl; exact gb.sh; exact bs) (by simp [allMs, barB]; omega) true
  have am : allMs [⟨b, 0, 0⟩, ⟨barB b.w t, 0, b.h + 3 * t⟩] = (ovB b t).ms := by
    simp [allMs, map_mv00 gb.sh.pl, barB, mvD, ovB]
  rw [am] at tb
  simp only [List.map_cons, List.map_nil, Pl.t] at tb
  have tb' : F_together_box [.int b.w, .int (b.h + 5 * t), .int b.d, .lst true [.tup [b.t false, .int 0, .int 0], .tup [(barB b.w t).t false, .int 0, .int (b.h + 3 * t)]]] = .ok ((ovB b t).t true) [] := tb
  generalize (barB b.w t).t true = B1 at *
  generalize (barB b.w t).t false = B0 at *
  generalize (ovB b t).t true = R at *
  simp [f0, f1, f2, f3, bf1, bf2, bf3, mMeth, k.r1, mCallF, mFill, fill, size_of, a, rb, t5, t3, tb', afterC, pickL, putBack, szOk, szl]
include l in
theorem under_box : F_under_box [fo, .int s, .tup [], b.t false] = .ok ((unB b (W.num (szOf s) "rule")).t true) [] := by
  unfold F_under_box m_under_box
  have e : start0 N_under_box [fo, .int s, .tup [], b.t false] = [some fo, some (.int s), some (.tup []), some (b.t false), none, none, none] := rfl
  rw [e]
  have f0 := k.fz
  have f1 := Bx.fz (o := false) gb.sh
  have z := szOf_b h0 h7
  have a := k.amt (szOf s) "rule" z.1 z.2 (by decide +kernel)
  have nb := k.k.num_b (szOf s) (w := "rule") (by decide +kernel)
  have g1 := k.k.g1
  unfold NB at nb
  generalize W.num (szOf s) "rule" = t at *
  have rb := rule_box b.w t
  have rg : GoodM (rMk b.w t) := rMk_good gb.w ⟨by omega, by omega⟩
  have bs : (barB b.w t).sh := ⟨fun e he => by rw [show e = .tup [.int 0, .int 0, rMk b.w t] from List.mem_singleton.mp he]; exact ⟨_, _, _, rg, rfl⟩, by show 1 < 500; decide⟩
  have f2 := Bx.fz (o := true) bs
  have f3 := Bx.fz (o := false) bs
  have t5 := mulOk_left (x := 5) (y := t) (by decide)
  have t4 := mulOk_left (x := 4) (y := t) (by decide)
  have tb := together_box b.w b.h (b.d + 5 * t) [⟨b, 0, 0⟩, ⟨barB b.w t, 0, 0 - b.d - 4 * t⟩] (by intro p hp; simp at hp; rcases hp with rfl | rfl; exact gb.sh; exact bs) (by simp [allMs, barB]; omega) true
  have am : allMs [⟨b, 0, 0⟩, ⟨barB b.w t, 0, 0 - b.d - 4 * t⟩] = (unB b t).ms := by
    simp [allMs, map_mv00 gb.sh.pl, barB, mvD, unB]
  rw [am] at tb
  simp only [List.map_cons, List.map_nil, Pl.t, Int.zero_sub] at tb
  have tb' : F_together_box [.int b.w, .int b.h, .int (b.d + 5 * t), .lst true [.tup [b.t false, .int 0, .int 0], .tup [(barB b.w t).t false, .int 0, .int (-b.d - 4 * t)]]] = .ok ((unB b t).t true) [] := tb
  generalize (barB b.w t).t true = B1 at *
  generalize (barB b.w t).t false = B0 at *
  generalize (unB b t).t true = R at *
  simp [f0, f1, f2, f3, bf1, bf2, bf3, mMeth, k.r1, mCallF, mFill, fill, size_of, a, rb, t5, t4, tb', afterC, pickL, putBack, szOk, szl]
theorem check_inner : F_check_inner [fo, .int s, b.t false] = .ok .non [] := by
  unfold F_check_inner m_check_inner
  have e : start0 N_check_inner [fo, .int s, b.t false] = [some fo, some (.int s), some (b.t false)] := rfl
  rw [e]
  have f0 := k.fz
  have f1 := Bx.fz (o := false) gb.sh
  have a1 := check_fonts k
  have a2 := check_style h0 h7
  have a3 : F_check_part [.str "inner", b.t false] = .ok .non [] := by
    unfold F_check_part m_check_part
    have e : start0 N_check_part [.str "inner", b.t false] = [some (.str "inner"), some (b.t false)] := rfl
    rw [e]
    have c := check_box false b gb
    simp [mTry, f1, mCallF, mFill, fill, c, afterC, pickL, putBack]
  simp [f0, f1, mCallF, mFill, fill, a1, a2, a3, afterC, pickL, putBack]
include l in
theorem overlined (o : Bool) : F_overlined [fo, .int s, b.t o] = .ok ((ovB b (W.num (szOf s) "rule")).t true) [] := by
  unfold F_overlined m_overlined
  have e : start0 N_overlined [fo, .int s, b.t o] = [some fo, some (.int s), some (b.t o)] := rfl
  rw [e]
  simp [k.fz, Bx.fz (o := o) gb.sh, Bx.fz (o := false) gb.sh, mCallF, mFill, fill, check_inner k h0 h7 gb, over_box k h0 h7 gb l, afterC, pickL, putBack, szOk, szl]
include l in
theorem underlined (o : Bool) : F_underlined [fo, .int s, b.t o] = .ok ((unB b (W.num (szOf s) "rule")).t true) [] := by
  unfold F_underlined m_underlined
  have e : start0 N_underlined [fo, .int s, b.t o] = [some fo, some (.int s), some (b.t o)] := rfl
  rw [e]
  simp [k.fz, Bx.fz (o := o) gb.sh, Bx.fz (o := false) gb.sh, mCallF, mFill, fill, check_inner k h0 h7 gb, under_box k h0 h7 gb l, afterC, pickL, putBack, szOk, szl]
end
theorem law_over (o : Bool) {b : Bx} {t : Int} (g : b.sh) (l : b.ms.length < 400) (h1 : WB (10 ^ 60) b.w) (h2 : WB (10 ^ 60) t) : F_law_over [b.t o, .int t] = .ok ((ovB b t).t true) [] := by
  unfold F_law_over m_law_over
  have e : start0 N_law_over [b.t o, .int t] = [some (b.t o), some (.int t), none] := rfl
  rw [e]
  have gs := ov_sh g l h1 h2
  have bi : F_Boxdd_initdd [.ins true 6 [] [], .int b.w, .int (b.h + 5 * t), .int b.d, .lst true (ovB b t).ms] = .ok .non [boxD true b.w (b.h + 5 * t) b.d (T.fzs (ovB b t).ms)] := box_init b.w (b.h + 5 * t) b.d true (ovB b t).ms
  rw [Sh.fzs gs.pl] at bi
  have bi' : F_Boxdd_initdd [.ins true 6 [] [], .int b.w, .int (b.h + 5 * t), .int b.d, .lst true (ovB b t).ms] = .ok .non [(ovB b t).t true] := bi
  have e1 : b.h + t + t + t = b.h + 3 * t := by omega
  have e2 : b.h + 3 * t + t + t = b.h + 5 * t := by omega
  have hz : b.ms.length + 1 ≤ sizeLine := szl (by omega)
  generalize (ovB b t).t true = R at *
  unfold ovB rMk at bi'
  simp [Bx.fz (o := o) g, Bx.fz (o := false) g, bf1, bf2, bf3, bf4, szOk, szl, hz, Sh.fzs g.pl, e1, e2, i2_0, i2_1, atI, ixN, mMake, bi', afterM]
theorem law_under (o : Bool) {b : Bx} {t : Int} (g : b.sh) (l : b.ms.length < 400) (h1 : WB (10 ^ 60) b.w) (h2 : WB (10 ^ 60) t) : F_law_under [b.t o, .int t] = .ok ((unB b t).t true) [] := by
  unfold F_law_under m_law_under
  have e : start0 N_law_under [b.t o, .int t] = [some (b.t o), some (.int t), none] := rfl
  rw [e]
  have gs := un_sh g l h1 h2
  have bi : F_Boxdd_initdd [.ins true 6 [] [], .int b.w, .int b.h, .int (b.d + 5 * t), .lst true (unB b t).ms] = .ok .non [boxD true b.w b.h (b.d + 5 * t) (T.fzs (unB b t).ms)] := box_init b.w b.h (b.d + 5 * t) true (unB b t).ms
  rw [Sh.fzs gs.pl] at bi
  have bi' : F_Boxdd_initdd [.ins true 6 [] [], .int b.w, .int b.h, .int (b.d + 5 * t), .lst true (unB b t).ms] = .ok .non [(unB b t).t true] := bi
  have e1 : 0 - b.d - 4 * t = -(b.d + 4 * t) := by omega
  have e2 : b.d + 4 * t + t = b.d + 5 * t := by omega
  have hz : b.ms.length + 1 ≤ sizeLine := szl (by omega)
  have t4 := mulOk_left (x := 4) (y := t) (by decide)
  generalize (unB b t).t true = R at *
  unfold unB rMk at bi'
  rw [e1] at bi'
  simp [Bx.fz (o := o) g, Bx.fz (o := false) g, bf1, bf2, bf3, bf4, szOk, szl, hz, Sh.fzs g.pl, t4, e2, mMake, bi', afterM]
theorem law_size {s : Int} (h0 : 0 ≤ s) (h7 : s ≤ 7) : F_law_size [.int s] = .ok (.int (szOf s)) [] := by
  unfold F_law_size m_law_size
  have e : start0 N_law_size [.int s] = [some (.int s)] := rfl
  have i : L2.atI [D.int 0, .int 0, .int 0, .int 0, .int 1, .int 1, .int 2, .int 2] s = some (.int (szOf s)) := by
    rcases eight h0 h7 with rfl | rfl | rfl | rfl | rfl | rfl | rfl | rfl <;> rfl
  rw [e]
  simp [szOk, szl, i]
end Qk52
end

section
set_option linter.all false
set_option maxHeartbeats 4000000
namespace Qk52
open PySem L2 T
theorem clr7 {b : Bx} {o0 o1 o2 o3 o4 o5 o6 o8 : Option D} : ∃ x, mClrF [6] 7 "marks" [o0, o1, o2, o3, o4, o5, o6, some (b.t true), o8] = .nx [o0, o1, o2, o3, o4, o5, o6, x, o8] := by
  have hp : posF "marks" fsBox = some 3 := by decide +kernel
  refine ⟨some (.ins true 6 fsBox [.int b.w, .int b.h, .int b.d, .lst true []]), ?_⟩
  unfold mClrF Bx.t boxD
  simp [hp]
theorem app8 {b : Bx} (h : b.ms.length < 500) {o0 o1 o2 o3 o4 o5 o6 o7 : Option D} : ∃ x, mMutF [6] 8 "marks" fApp (mC .non) [o0, o1, o2, o3, o4, o5, o6, o7, some (b.t true)] = .nx [o0, o1, o2, o3, o4, o5, o6, o7, x] := by
  have hp : posF "marks" fsBox = some 3 := by decide +kernel
  have hs : b.ms.length < sizeLine := by rw [PySem.sizeLine_eq]; omega
  refine ⟨some (.ins true 6 fsBox [.int b.w, .int b.h, .int b.d, .lst true (b.ms ++ [.non])]), ?_⟩
  unfold mMutF Bx.t boxD
  simp [hp, fApp, hs]
abbrev q1 : Ro → RS := (mPar 7 8 (mCons (mCallF [none, none, none] [] [] F_overlined (mCons (mV 0) (mCons (mV 2) (mCons (mV 3) mNil)))) (mCons (mCallF [none, none, none] [] [] F_underlined (mCons (mV 0) (mCons (mV 2) (mCons (mV 3) mNil)))) mNil)))
abbrev q2 : Ro → RS := (mIfS (mB (fun _ => true) (mOr (mT (m2 (oOwn 6 F_Boxdd_eqdd (!·)) (mV 7) (mCallF [none, none] [] [] F_law_over (mCons (mV 3) (mCons (mV 5) mNil))))) (mT (m2 (oOwn 6 F_Boxdd_eqdd (!·)) (mV 8) (mCallF [none, none] [] [] F_law_under (mCons (mV 3) (mCons (mV 5) mNil))))))) (mRet (mC (.bl false))) mNx)
abbrev q3 : Ro → RS := (mIfS (mB (fun _ => true) (mOr (mT (m2 (oOwn 6 F_Boxdd_eqdd (!·)) (mCallF [none, none, none] [] [] F_underlined (mCons (mV 0) (mCons (mV 2) (mCons (mV 7) mNil)))) (mCallF [none, none] [] [] F_law_under (mCons (mV 7) (mCons (mV 5) mNil))))) (mT (m2 (oOwn 6 F_Boxdd_eqdd id) (mCallF [none, none, none] [] [] F_overlined (mCons (mV 0) (mCons (mV 2) (mCons (mV 7) mNil)))) (mV 7))))) (mRet (mC (.bl false))) mNx)
abbrev tB : Ro → RS := mSeq q1 (mSeq q2 (mSeq q3 (mSeq (mClrF [6] 7 "marks") (mMutF [6] 8 "marks" fApp (mC .non)))))
structure Hyp (W : Wd) (g s : Int) (b : Bx) : Prop where
  k : W.ok g
  s0 : 0 ≤ s
  s7 : s ≤ 7
  gb : b.ok (10 ^ 50)
  l : b.ms.length < 100
section
variable {W : Wd} {g s : Int} {b : Bx} (h : Hyp W g s b)
include h
theorem tB_step (i : Int) {o7 o8 o4 : Option D} (p : Bool) : ∃ x7 x8, gBody (gSet 4) tB (.int i) [some (W.f false), some W.w, some (.int s), some (b.t false), o4, some (.int (W.num (szOf s) "rule")), some (b.t p), o7, o8] = .nx [some (W.f false), some W.w, some (.int s), some (b.t false), some (.int i), some (.int (W.num (szOf s) "rule")), some (b.t p), x7, x8] := by
  have k := h.k.fo
  have gb := h.gb.mono (show (10 ^ 50 : Int) ≤ 10 ^ 60 by decide)
  have z := szOf_b h.s0 h.s7
  have nb := h.k.num_b (szOf s) (w := "rule") (by decide +kernel)
  have g1 := h.k.g1
  have l := h.l
  unfold NB at nb
  have o1 := overlined k h.s0 h.s7 gb (by omega) false
  have u1 := underlined k h.s0 h.s7 gb (by omega) false
  have w60 : WB (10 ^ 60) (W.num (szOf s) "rule") := ⟨by omega, by omega⟩
  have so := ov_sh gb.sh (by omega) gb.w w60
  have su := un_sh gb.sh (by omega) gb.w w60
  have go := (ov_ok (t := W.num (szOf s) "rule") h.gb (by omega) (by decide) nb.1 (by omega)).mono (show (10 ^ 50 + 10 ^ 46 : Int) ≤ 10 ^ 60 by decide)
  have lo : (ovB b (W.num (szOf s) "rule")).ms.length < 400 := by simp [ovB]; omega
  have o2 := overlined k h.s0 h.s7 go lo false
  have u2 := underlined k h.s0 h.s7 go lo false
  have lv1 := law_over false gb.sh (show b.ms.length < 400 by omega) gb.w w60
  have lu1 := law_under false gb.sh (show b.ms.length < 400 by omega) gb.w w60
  have lu2 := law_under false go.sh lo go.w w60
  have soo := ov_sh go.sh lo go.w w60
  have suo := un_sh go.sh lo go.w w60
  have ne1 := fun p q ρ => own_ne so p q ρ
  have ne2 := fun p q ρ => own_ne su p q ρ
  have ne3 := fun p q ρ => own_ne suo p q ρ
  have eqf := fun p q ρ => own_eqF soo so (by simp [ovB]) p q ρ
  have fb := fun o => Bx.fz (o := o) gb.sh
  have fo := fun o => Bx.fz (o := o) so
  have fu := fun o => Bx.fz (o := o) su
  have f0 := k.fz
  have fw := h.k.fz_w
  obtain ⟨x7, e7⟩ := clr7 (b := ovB b (W.num (szOf s) "rule")) (o0 := some (W.f false)) (o1 := some W.w) (o2 := some (.int s)) (o3 := some (b.t false)) (o4 := some (.int i)) (o5 := some (.int (W.num (szOf s) "rule"))) (o6 := some (b.t p)) (o8 := some ((unB b (W.num (szOf s) "rule")).t true))
  obtain ⟨x8, e8⟩ := app8 su.len (o0 := some (W.f false)) (o1 := some W.w) (o2 := some (.int s)) (o3 := some (b.t false)) (o4 := some (.int i)) (o5 := some (.int (W.num (szOf s) "rule"))) (o6 := some (b.t p)) (o7 := x7)
  refine ⟨x7, x8, ?_⟩
  generalize W.num (szOf s) "rule" = t at *
  generalize ovB (ovB b t) t = OO at *
  generalize unB (ovB b t) t = UO at *
  generalize ovB b t = O at *
  generalize unB b t = U at *
  generalize W.f false = fo' at *
  generalize W.w = w at *
  simp only [gBody, gSet_app, List.set_cons_succ, List.set_cons_zero]
  have s1 : q1 [some fo', some w, some (.int s), some (b.t false), some (.int i), some (.int t), some (b.t p), o7, o8] = .nx [some fo', some w, some (.int s), some (b.t false), some (.int i), some (.int t), some (b.t p), some (O.t true), some (U.t true)] := by
    simp [mCallF, mFill, fill, f0, fb, o1, u1, afterC, pickL, putBack]
  have s2 : q2 [some fo', some w, some (.int s), some (b.t false), some (.int i), some (.int t), some (b.t p), some (O.t true), some (U.t true)] = .nx [some fo', some w, some (.int s), some (b.t false), some (.int i), some (.int t), some (b.t p), some (O.t true), some (U.t true)] := by
    simp [mB_app, mCallF, mFill, fill, f0, fw, fb, fo, fu, lv1, lu1, ne1, ne2, afterC, pickL, putBack]
  have s3 : q3 [some fo', some w, some (.int s), some (b.t false), some (.int i), some (.int t), some (b.t p), some (O.t true), some (U.t true)] = .nx [some fo', some w, some (.int s), some (b.t false), some (.int i), some (.int t), some (b.t p), some (O.t true), some (U.t true)] := by
    simp [mB_app, mCallF, mFill, fill, f0, fw, fb, fo, fu, o2, u2, lu2, ne3, eqf, afterC, pickL, putBack]
  unfold tB
  rw [mSeq_nx s1, mSeq_nx s2, mSeq_nx s3, mSeq_nx e7]
  exact e8
theorem law_right (o : Bool) : F_law_right [W.f false, W.w, .int s, b.t o] = .ok (.bl true) [] := by
  have k := h.k.fo
  have gb := h.gb.mono (show (10 ^ 50 : Int) ≤ 10 ^ 60 by decide)
  have z := szOf_b h.s0 h.s7
  have i1 : ∀ ρ, oIxA W.w (.str "numbers") ρ = .ok (.lst false [rowF W.A, rowF W.B, rowF W.C]) ρ := fun ρ => ix_num W.A W.B W.C W.S ρ
  have i2 := rows_at (W := W) z.1 z.2
  have i3 := h.k.ix_row (szOf s) (w := "rule") (by decide +kernel)
  have ls := law_size h.s0 h.s7
  have t1 := fun o4 o7 o8 => tB_step h 0 (o4 := o4) (o7 := o7) (o8 := o8) true
  have t2 := fun o4 o7 o8 => tB_step h 1 (o4 := o4) (o7 := o7) (o8 := o8) true
  have fb := fun o => Bx.fz (o := o) gb.sh
  have fw := h.k.fz_w
  have fm := Sh.fzs gb.sh.pl
  have bi : F_Boxdd_initdd [.ins true 6 [] [], .int b.w, .int b.h, .int b.d, .lst false b.ms] = .ok .non [boxD true b.w b.h b.d (T.fzs b.ms)] := box_init b.w b.h b.d false b.ms
  rw [fm] at bi
  have bi' : F_Boxdd_initdd [.ins true 6 [] [], .int b.w, .int b.h, .int b.d, .lst false b.ms] = .ok .non [b.t true] := bi
  have eqt := fun p q ρ => own_eqT gb.sh p q ρ
  unfold F_law_right m_law_right
  have e : start0 N_law_right [W.f false, W.w, .int s, b.t o] = [some (W.f false), some W.w, some (.int s), some (b.t o), none, none, none, none, none] := rfl
  rw [e]
  generalize W.num (szOf s) "rule" = t at *
  generalize W.f false = fo' at *
  generalize W.w = w at *
  generalize rowF (W.row (szOf s)) = r at *
  generalize rowF W.A = ra at *
  generalize rowF W.B = rb at *
  generalize rowF W.C = rc at *
  have s1 : (mPar 5 6 (mCons (m2 oIxA (m2 oIx (m2 oIxA (mV 1) (mC (.str "numbers"))) (mCallF [none] [] [] F_law_size (mCons (mV 2) mNil))) (mC (.str "rule"))) (mCons (mMake 6 4 [] F_Boxdd_initdd (mCons (m1 (oFld [6] "width") (mV 3)) (mCons (m1 (oFld [6] "height") (mV 3)) (mCons (m1 (oFld [6] "depth") (mV 3)) (mCons (m1 (oFld [6] "marks") (mV 3)) mNil))))) mNil))) [some fo', some w, some (.int s), some (b.t o), none, none, none, none, none] = .nx [some fo', some w, some (.int s), some (b.t false), none, some (.int t), some (b.t true), none, none] := by
    simp [fw, fb, i1, mCallF, mFill, fill, ls, i2, i3, bf1, bf2, bf3, bf4, mMake, bi', afterM, afterC, pickL, putBack]
  rw [mSeq_nx s1]
  obtain ⟨a7, a8, e1⟩ := t1 none none none
  obtain ⟨c7, c8, e2⟩ := t2 (some (.int 0)) a7 a8
  change toRF [] (mSeq (mFor _ (gSet 4) tB) _ _) = _
  have hin : inRng 2 = true := by decide
  have rg : rng 0 2 = [.int 0, .int 1] := rfl
  have s2 : (mFor (fun ρ => ((mCons (mC (.int 2)) mNil) ρ).bind oRange) (gSet 4) tB) [some fo', some w, some (.int s), some (b.t false), none, some (.int t), some (b.t true), none, none] = .nx [some fo', some w, some (.int s), some (b.t false), some (.int 1), some (.int t), some (b.t true), c7, c8] := by
    unfold mFor
    simp only [mCons_app, mC_app, mNil_app, bind_ok, oRange, hin, if_true, bS_ok]
    rw [show (2 : Int).toNat = 2 from rfl, rg, loop_nx e1, loop_nx e2]
    rfl
  rw [mSeq_nx s2]
  simp [fb, eqt]
end
end Qk52
end

section
set_option linter.all false
set_option maxHeartbeats 4000000
namespace Qk52
open PySem L2 T
theorem cutI {ds : List D} {i : Int} (h0 : 0 ≤ i) (h1 : i ≤ ds.length) : cutD ds (some i) none = ds.drop i.toNat := by
  unfold cutD HT.sIx
  have n : ¬ i < 0 := by omega
  have m : min i.toNat ds.length = i.toNat := by omega
  simp only [n, if_false, m]
  exact List.take_of_length_le (by simp)
theorem fzs_ints {ns : List Int} : fzs (ns.map D.int) = ns.map D.int := by
  induction ns with
  | nil => rfl
  | cons n ns ih => rw [List.map_cons, fzs_cons, ih]; rfl
abbrev rb : Ro → RS := (mIfS (mNot (mT (mCallF [none, none, none, none] [] [] F_law_right (mCons (mV 5) (mCons (mV 4) (mCons (mV 8) (mCons (mV 7) mNil))))))) (mRet (mC (.bl false))) mNx)
theorem rb_step {W : Wd} {g s : Int} {b : Bx} (h : Hyp W g s b) (o p : Bool) {o0 o1 o2 o3 o6 o8 : Option D} :
    gBody (gSet 8) rb (.int s) [o0, o1, o2, o3, some W.w, some (W.f o), o6, some (b.t p), o8] = .nx [o0, o1, o2, o3, some W.w, some (W.f false), o6, some (b.t false), some (.int s)] := by
  have f0 := h.k.fz_f o
  have fw := h.k.fz_w
  have f1 := Bx.fz (o := p) h.gb.sh
  have lr := law_right h false
  generalize W.f o = fo at *
  generalize W.f false = f at *
  generalize W.w = w at *
  simp [gBody, mCallF, mFill, fill, f0, fw, f1, lr, afterC, pickL, putBack]
abbrev u1 : Ro → RS := (mAsg (mCallF [none, none, none] [] [] F_law_box (mCons (mSl (mV 2) (fun ρ => ((m2 oAddA (mC (.int 101)) (m2 oMulI (mC (.int 6)) (mV 6))) ρ).bind oSome) mNone) (mCons (mV 3) (mCons (mV 6) mNil)))) (gSet 7))
abbrev u2 : Ro → RS := (mFor (fun ρ => ((m2 oAddA (m1 oLRg (mC (.int 8))) (mN oLst (mCons (mC (.int 0)) mNil))) ρ).bind oSeq) (gSet 8) rb)
abbrev tuB : Ro → RS := mSeq u1 u2
theorem turn_step {W : Wd} {g : Int} (k : W.ok g) {dg : List D} (hd : ∀ d ∈ dg, Dg d) (hl : dg.length = 130) {t : Int} (t0 : 0 ≤ t) (t3 : t ≤ 3) (o : Bool) {o0 o1 o6 o7 o8 : Option D} :
    ∃ x7 x8, gBody (gSet 6) tuB (.int t) [o0, o1, some (.lst false dg), some (.int g), some W.w, some (W.f o), o6, o7, o8] = .nx [o0, o1, some (.lst false dg), some (.int g), some W.w, some (W.f false), some (.int t), x7, x8] := by
  have g0 := k.g0
  have g1 := k.g1
  have f := Dg.fzs hd
  have dr : ∀ j : Nat, ∀ d ∈ dg.drop j, Dg d := fun j d h => hd d (List.mem_of_mem_drop h)
  have lb : F_law_box [.lst true (cutD dg (some (101 + 6 * t)) none), .int g, .int t] = .ok ((bxOf (dg.drop (101 + 6 * t).toNat) g t).t true) [] := by
    rw [cutI (by omega) (by omega)]
    exact law_box (dr _) (by rw [List.length_drop]; omega) g t true
  have bo : (bxOf (dg.drop (101 + 6 * t).toNat) g t).ok (10 ^ 50) := (bx_ok g0 (by omega) t0 (by omega)).mono (by decide)
  have bl : (bxOf (dg.drop (101 + 6 * t).toNat) g t).ms.length < 100 := by show 2 < 100; decide
  generalize bxOf (dg.drop (101 + 6 * t).toNat) g t = b at *
  have q6 := mulOk_left (x := 6) (y := t) (by decide)
  have hs := fun (s : Int) s0 s7 o p o8 => rb_step (W := W) (g := g) (b := b) (s := s) ⟨k, s0, s7, bo, bl⟩ o p (o0 := o0) (o1 := o1) (o2 := some (.lst false dg)) (o3 := some (.int g)) (o6 := some (.int t)) (o8 := o8)
  have a1 : u1 [o0, o1, some (.lst false dg), some (.int g), some W.w, some (W.f o), some (.int t), o7, o8] = .nx [o0, o1, some (.lst false dg), some (.int g), some W.w, some (W.f o), some (.int t), some (b.t true), o8] := by
    generalize W.f o = fo at *
    generalize W.w = w at *
    simp [f, mCallF, mFill, fill, mSl, oSome, mNone, oSl, q6, lb, afterC, pickL, putBack]
  have inv : ∀ {ρ : Ro} {ds : List D}, (∃ o p x8, ρ = [o0, o1, some (.lst false dg), some (.int g), some W.w, some (W.f o), some (.int t), some (b.t p), x8]) → (∀ d ∈ ds, ∃ s : Int, d = .int s ∧ 0 ≤ s ∧ s ≤ 7) → ds ≠ [] → ∃ x8, loop (gBody (gSet 8) rb) ds ρ = .nx [o0, o1, some (.lst false dg), some (.int g), some W.w, some (W.f false), some (.int t), some (b.t false), x8] := fun {ρ ds} i hs' hne => by
    induction ds generalizing ρ with
    | nil => exact absurd rfl hne
    | cons d ds ih =>
      obtain ⟨o, p, x8, rfl⟩ := i
      obtain ⟨s, rfl, s0, s7⟩ := hs' d List.mem_cons_self
      rw [loop_nx (hs s s0 s7 o p x8)]
      cases ds with
      | nil => exact ⟨_, rfl⟩
      | cons d' ds' => exact ih ⟨false, false, _, rfl⟩ (fun x hx => hs' x (List.mem_cons_of_mem _ hx)) (by simp)
  have fr : T.fzs (rng 0 8) = rng 0 8 := rfl
  obtain ⟨x8, e⟩ := inv (ds := rng 0 8 ++ [.int 0]) ⟨o, true, o8, rfl⟩ (fun d h => by
    rcases List.mem_append.mp h with h | h
    · unfold rng at h
      obtain ⟨i, hi, rfl⟩ := List.mem_map.mp h
      exact ⟨_, rfl, by omega, by simp at hi; omega⟩
    · rw [List.mem_singleton] at h
      exact ⟨0, h, by decide, by decide⟩) (by simp)
  refine ⟨some (b.t false), x8, ?_⟩
  simp only [gBody, gSet_app, List.set_cons_succ, List.set_cons_zero]
  unfold tuB
  rw [mSeq_nx a1]
  have li : ∀ ρ : Ro, (m2 oAddA (m1 oLRg (mC (.int 8))) (mN oLst (mCons (mC (.int 0)) mNil))) ρ = .ok (.lst true (rng 0 8 ++ [.int 0])) ρ := fun ρ => by
    have z9 : szOk ((rng 0 8).length + 1) = true := by unfold szOk; simp [rng, szl]
    simp [oLRg, szOk, szl, fr]
    simpa [szOk] using z9
  have ff : T.fzs (rng 0 8 ++ [.int 0]) = rng 0 8 ++ [.int 0] := rfl
  unfold u2 mFor
  simp only [li, bind_ok, oSeq_lst, ff, bS_ok]
  exact e
abbrev c1 : Ro → RS := (mAsg (mCallF [none, none] [] [] F_law_digits (mCons (mV 1) (mCons (mC (.int 130)) mNil))) (gSet 2))
abbrev c2 : Ro → RS := (mAsg (m2 oIx (mN oLst (mCons (mC (.int 1)) (mCons (mC (.int 1)) (mCons (mC (.int 7)) (mCons (m2 oPow (mC (.int 10)) (mC (.int 40))) mNil))))) (m2 oMod (mN oInt (mCons (m2 oIx (mV 2) (mC (.int 100))) mNil)) (mC (.int 4)))) (gSet 3))
abbrev c3 : Ro → RS := (mAsg (mCallF [none, none] [] [] F_law_world (mCons (mV 2) (mCons (mV 3) mNil))) (gSet 4))
abbrev c4 : Ro → RS := (mAsg (mCallF [none] [] [] F_law_fonts (mCons (mV 4) mNil)) (gSet 5))
abbrev c5 : Ro → RS := (mFor (fun ρ => ((mCons (mC (.int 4)) mNil) ρ).bind oRange) (gSet 6) tuB)
abbrev c6 : Ro → RS := (mIfS (mT (m2 (oOwn 6 F_Boxdd_eqdd (!·)) (mCallF [none, none, none] [] [] F_overlined (mCons (mV 5) (mCons (mC (.int 2)) (mCons (mMake 6 3 [.tup []] F_Boxdd_initdd (mCons (mC (.int 0)) (mCons (mC (.int 0)) (mCons (mC (.int 0)) mNil)))) mNil)))) (mCallF [none, none] [] [] F_law_over (mCons (mMake 6 3 [.tup []] F_Boxdd_initdd (mCons (mC (.int 0)) (mCons (mC (.int 0)) (mCons (mC (.int 0)) mNil)))) (mCons (m2 oIxA (m2 oIx (m2 oIxA (mV 4) (mC (.str "numbers"))) (mC (.int 0))) (mC (.str "rule"))) mNil))))) (mRet (mC (.bl false))) mNx)
abbrev ceB : Ro → RS := mSeq c1 (mSeq c2 (mSeq c3 (mSeq c4 (mSeq c5 c6))))
def grI (dg : List D) : Int := if digAt dg 100 % 4 = 3 then 10 ^ 40 else if digAt dg 100 % 4 = 2 then 7 else 1
theorem box0_init : F_Boxdd_initdd [.ins true 6 [] [], .int 0, .int 0, .int 0, .tup []] = .ok .non [(Bx.mk 0 0 0 []).t true] := by
  unfold F_Boxdd_initdd m_Boxdd_initdd
  have e : start0 N_Boxdd_initdd [.ins true 6 [] [], .int 0, .int 0, .int 0, .tup []] = [some (.ins true 6 [] []), some (.int 0), some (.int 0), some (.int 0), some (.tup [])] := rfl
  rw [e]
  simp [mSetF, putN, putX, oList, outsOf, Bx.t, boxD, ne1, ne2, ne3, ne4, ne5, ne6]
theorem last_test {W : Wd} {g : Int} (k : W.ok g) {o0 o1 o2 o3 o6 o7 o8 : Option D} : c6 [o0, o1, o2, o3, some W.w, some (W.f false), o6, o7, o8] = .nx [o0, o1, o2, o3, some W.w, some (W.f false), o6, o7, o8] := by
  have b0 : (Bx.mk 0 0 0 []).ok (10 ^ 60) := ⟨⟨by decide, by decide⟩, ⟨by decide, by decide⟩, ⟨by decide, by decide⟩, fun e h => by simp at h, by simp⟩
  have nb := k.num_b 0 (w := "rule") (by decide +kernel)
  have g1 := k.g1
  unfold NB at nb
  have w60 : WB (10 ^ 60) (W.num 0 "rule") := ⟨by omega, by omega⟩
  have ov : F_overlined [W.f false, .int 2, (Bx.mk 0 0 0 []).t true] = .ok ((ovB (Bx.mk 0 0 0 []) (W.num 0 "rule")).t true) [] := overlined k.fo (s := 2) (by decide) (by decide) b0 (by simp) true
  have lo := law_over true b0.sh (show (Bx.mk 0 0 0 []).ms.length < 400 by simp) b0.w w60
  have so := ov_sh b0.sh (by simp) b0.w w60
  have ne := own_ne so true true
  have i1 : ∀ ρ, oIxA W.w (.str "numbers") ρ = .ok (.lst false [rowF W.A, rowF W.B, rowF W.C]) ρ := fun ρ => ix_num W.A W.B W.C W.S ρ
  have i2 := rows_at (W := W) (sz := 0) (by decide) (by decide)
  have i3 := k.ix_row 0 (w := "rule") (by decide +kernel)
  have fw := k.fz_w
  have f0 := k.fz_f false
  have bi := box0_init
  generalize W.num 0 "rule" = t at *
  generalize (ovB (Bx.mk 0 0 0 []) t).t true = R at *
  generalize (Bx.mk 0 0 0 []).t true = B at *
  generalize W.f false = fo at *
  generalize W.w = w at *
  generalize rowF (W.row 0) = r at *
  generalize rowF W.A = ra at *
  generalize rowF W.B = rb at *
  generalize rowF W.C = rc at *
  simp [fw, f0, i1, i2, i3, mMake, bi, afterM, mCallF, mFill, fill, ov, lo, ne, afterC, pickL, putBack]
theorem cell_step (c : Int) {o0 o1 o2 o3 o4 o5 o6 o7 o8 : Option D} : ∃ x1 x2 x3 x4 x5 x6 x7 x8, gBody (gSet 1) ceB (.int c) [o0, o1, o2, o3, o4, o5, o6, o7, o8] = .nx [o0, x1, x2, x3, x4, x5, x6, x7, x8] := by
  obtain ⟨dg, e1, hd, hl⟩ := digits c
  have f := Dg.fzs hd
  have b := digAt_ok hd hl (t := 100) (by decide) (by decide)
  have g0 : 0 < grI dg := by unfold grI; split; decide; split <;> decide
  have g1 : grI dg ≤ 10 ^ 40 := by unfold grI; split; decide; split <;> decide
  obtain ⟨A, B, C, hn, hv, e3⟩ := world hd hl g0
  have vS := sv2_Bv hd hl g0
  have k : (Wd.mk A B C (setVals2 dg (grI dg))).ok (grI dg) := ⟨hn.1, hn.2.1, hn.2.2, rfl, hv.1, hv.2.1, hv.2.2, vS, g0, g1⟩
  have e4 : F_law_fonts [(Wd.mk A B C (setVals2 dg (grI dg))).w] = .ok ((Wd.mk A B C (setVals2 dg (grI dg))).f true) [] := fonts g0 (by omega) hd hl hn hv
  have fw : T.fz (wrld A B C (setVals2 dg (grI dg))) = (Wd.mk A B C (setVals2 dg (grI dg))).w := fz_wrldF hv vS
  generalize wrld A B C (setVals2 dg (grI dg)) = wo at *
  have tt := fun (t : Int) t0 t3 o o6 o7 o8 => turn_step k hd hl (t := t) t0 t3 o (o0 := o0) (o1 := some (.int c)) (o6 := o6) (o7 := o7) (o8 := o8)
  have lt := fun o6 o7 o8 => last_test k (o0 := o0) (o1 := some (.int c)) (o2 := some (.lst false dg)) (o3 := some (.int (grI dg))) (o6 := o6) (o7 := o7) (o8 := o8)
  clear k hv hn vS
  generalize Wd.mk A B C (setVals2 dg (grI dg)) = W at *
  have s1 : c1 [o0, some (.int c), o2, o3, o4, o5, o6, o7, o8] = .nx [o0, some (.int c), some (.lst true dg), o3, o4, o5, o6, o7, o8] := by
    simp [mCallF, mFill, fill, e1, afterC, pickL, putBack]
  have s2 : c2 [o0, some (.int c), some (.lst true dg), o3, o4, o5, o6, o7, o8] = .nx [o0, some (.int c), some (.lst false dg), some (.int (grI dg)), o4, o5, o6, o7, o8] := by
    have m0 : 0 ≤ digAt dg 100 % 4 := Int.emod_nonneg _ (by decide)
    have m4 : digAt dg 100 % 4 < 4 := Int.emod_lt_of_pos _ (by decide)
    have p : ∀ ρ, oPow (.int 10) (.int 40) ρ = .ok (.int (10 ^ 40)) ρ := fun ρ => by simp [oPow]
    have ee : L2.atI [D.int 1, .int 1, .int 7, .int (10 ^ 40)] (digAt dg 100 % 4) = some (.int (grI dg)) := by
      unfold grI
      generalize digAt dg 100 % 4 = q at *
      have : q = 0 ∨ q = 1 ∨ q = 2 ∨ q = 3 := by omega
      rcases this with rfl | rfl | rfl | rfl <;> rfl
    generalize (10 : Int) ^ 40 = h at *
    simp [f, b.1, oInt, p, szOk, szl, ee]
  have s3 : c3 [o0, some (.int c), some (.lst false dg), some (.int (grI dg)), o4, o5, o6, o7, o8] = .nx [o0, some (.int c), some (.lst false dg), some (.int (grI dg)), some wo, o5, o6, o7, o8] := by
    simp [mCallF, mFill, fill, f, e3, afterC, pickL, putBack]
  have s4 : c4 [o0, some (.int c), some (.lst false dg), some (.int (grI dg)), some wo, o5, o6, o7, o8] = .nx [o0, some (.int c), some (.lst false dg), some (.int (grI dg)), some W.w, some (W.f true), o6, o7, o8] := by
    generalize W.f true = fo at *
    generalize W.w = w at *
    simp [mCallF, mFill, fill, fw, e4, afterC, pickL, putBack]
  have inv : ∀ {ρ : Ro} {ds : List D}, (∃ o x6 x7 x8, ρ = [o0, some (.int c), some (.lst false dg), some (.int (grI dg)), some W.w, some (W.f o), x6, x7, x8]) → (∀ d ∈ ds, ∃ s : Int, d = .int s ∧ 0 ≤ s ∧ s ≤ 3) → ds ≠ [] → ∃ x6 x7 x8, loop (gBody (gSet 6) tuB) ds ρ = .nx [o0, some (.int c), some (.lst false dg), some (.int (grI dg)), some W.w, some (W.f false), x6, x7, x8] := fun {ρ ds} i hs' hne => by
    induction ds generalizing ρ with
    | nil => exact absurd rfl hne
    | cons d ds ih =>
      obtain ⟨o, x6, x7, x8, rfl⟩ := i
      obtain ⟨s, rfl, q0, q3⟩ := hs' d List.mem_cons_self
      obtain ⟨y7, y8, e⟩ := tt s q0 q3 o x6 x7 x8
      rw [loop_nx e]
      cases ds with
      | nil => exact ⟨_, _, _, rfl⟩
      | cons d' ds' => exact ih ⟨false, _, _, _, rfl⟩ (fun x hx => hs' x (List.mem_cons_of_mem _ hx)) (by simp)
  obtain ⟨x6, x7, x8, e⟩ := inv (ds := rng 0 4) ⟨true, o6, o7, o8, rfl⟩ (fun d h => by
    unfold rng at h
    obtain ⟨i, hi, rfl⟩ := List.mem_map.mp h
    exact ⟨_, rfl, by omega, by simp at hi; omega⟩) (by simp [rng])
  have hin4 : inRng 4 = true := by decide
  have s5 : c5 [o0, some (.int c), some (.lst false dg), some (.int (grI dg)), some W.w, some (W.f true), o6, o7, o8] = .nx [o0, some (.int c), some (.lst false dg), some (.int (grI dg)), some W.w, some (W.f false), x6, x7, x8] := by
    unfold c5 mFor
    simp only [mCons_app, mC_app, mNil_app, bind_ok, oRange, hin4, if_true, bS_ok]
    exact e
  refine ⟨some (.int c), some (.lst false dg), some (.int (grI dg)), some W.w, some (W.f false), x6, x7, x8, ?_⟩
  simp only [gBody, gSet_app, List.set_cons_succ, List.set_cons_zero]
  unfold ceB
  rw [mSeq_nx s1, mSeq_nx s2, mSeq_nx s3, mSeq_nx s4, mSeq_nx s5]
  exact lt x6 x7 x8
theorem cell_loop : ∀ (cs : List Int) {o0 o1 o2 o3 o4 o5 o6 o7 o8 : Option D}, ∃ x1 x2 x3 x4 x5 x6 x7 x8, loop (gBody (gSet 1) ceB) (cs.map D.int) [o0, o1, o2, o3, o4, o5, o6, o7, o8] = .nx [o0, x1, x2, x3, x4, x5, x6, x7, x8]
  | [], o0, o1, o2, o3, o4, o5, o6, o7, o8 => ⟨_, _, _, _, _, _, _, _, rfl⟩
  | c :: cs, o0, o1, o2, o3, o4, o5, o6, o7, o8 => by
    obtain ⟨y1, y2, y3, y4, y5, y6, y7, y8, e⟩ := cell_step c (o0 := o0) (o1 := o1) (o2 := o2) (o3 := o3) (o4 := o4) (o5 := o5) (o6 := o6) (o7 := o7) (o8 := o8)
    rw [List.map_cons, loop_nx e]
    exact cell_loop cs
theorem cut_map (ns : List Int) (lo hi : Option Int) : ∃ ms : List Int, cutD (ns.map D.int) lo hi = ms.map D.int ∧ ms.length ≤ ns.length := by
  unfold cutD
  rw [← List.map_drop, ← List.map_take]
  exact ⟨_, rfl, by rw [List.length_take, List.length_drop]; omega⟩
theorem law_true : ∀ ns : List Int, ns.length ≤ 63 → F_law [.lst false (ns.map D.int)] = .ok (.bl true) [] := by
  intro ns hl
  unfold F_law m_law
  have e : start0 N_law [.lst false (ns.map D.int)] = [some (.lst false (ns.map D.int)), none, none, none, none, none, none, none, none] := rfl
  rw [e]
  obtain ⟨m1, q1, l1⟩ := cut_map ns none (some 5)
  obtain ⟨j2, q2, l2⟩ := cut_map [19] (some ns.length) none
  have q2' : cutD [D.int 19] (some ns.length) none = j2.map D.int := q2
  have l2' : j2.length ≤ 1 := l2
  have fi := @fzs_ints ns
  have f1 := @fzs_ints m1
  have f2 := @fzs_ints j2
  have z1 : szOk 1 = true := by unfold szOk; simp [szl]
  have z : szOk (m1.length + j2.length) = true := by unfold szOk; simp [szl (n := m1.length + j2.length) (by omega)]
  obtain ⟨x1, x2, x3, x4, x5, x6, x7, x8, lp⟩ := cell_loop (m1 ++ j2) (o0 := some (.lst false (ns.map D.int))) (o1 := none) (o2 := none) (o3 := none) (o4 := none) (o5 := none) (o6 := none) (o7 := none) (o8 := none)
  rw [List.map_append] at lp
  change toRF [] (mSeq (mFor _ (gSet 1) ceB) _ _) = _
  have s : ∀ g b, mFor (fun ρ => ((m2 oAddA (mSl (mV 0) mNone (fun ρ => ((mC (.int 5)) ρ).bind oSome)) (mSl (mN oLst (mCons (mC (.int 19)) mNil)) (fun ρ => ((mN oLenS (mCons (mV 0) mNil)) ρ).bind oSome) mNone)) ρ).bind oSeq) g b [some (.lst false (ns.map D.int)), none, none, none, none, none, none, none, none] = loop (gBody g b) (m1.map D.int ++ j2.map D.int) [some (.lst false (ns.map D.int)), none, none, none, none, none, none, none, none] := fun g b => by
    have fap : T.fzs (m1.map D.int ++ j2.map D.int) = m1.map D.int ++ j2.map D.int := by
      rw [← List.map_append]; exact fzs_ints
    simp [mFor, mSl, mNone, oSome, oSl, fi, q1, q2', f1, f2, z1, z, fap]
  rw [show ∀ (m n : Ro → RS) (ρ : Ro), mSeq m n ρ = (match m ρ with | .nx ρ1 => n ρ1 | r => r) from fun _ _ _ => rfl, s, lp]
  rfl
end Qk52
end

section
set_option Elab.async false
set_option linter.all false
set_option maxRecDepth 100000
set_option maxHeartbeats 4000000
open PySem PySem.W PyProof.Rows
set_option maxRecDepth 100000 in
set_option maxHeartbeats 0 in
theorem PySem.Challenge.cw_mathboxes_k52_bars_above_and_below_holds : PySem.Challenge.rw_mathboxes_k52_bars_above_and_below.Holds := by
  w_on; o_law; k_head; (case hw => w_witness2)
  k_fill
  refine T.walk_T (x := "script") (k := 13) (f := Qk52.F_law) (l := PySem.Challenge.rw_mathboxes_k52_bars_above_and_below) rfl (by decide) rfl ⟨⟨rfl, by decide, by decide⟩, rfl⟩ ?NL (fun w h Y => PySem.W.kIn_of Y) ?F Qk52.law_true
  case NL => intro w; first | rfl | k_is
  case F =>
    intro w mg fa h KX G hmg
    refine' Qk52.all_mk KX G hmg ?gBox ?inBox ?gFonts ?inFonts ?mt31 ?qeBox ?gInvalidBox ?a0 ?l0 ?c0 ?k0 ?l1 ?c1 ?k1 ?l2 ?c2 ?k2 ?d2 ?de2 ?a3 ?l3 ?c3 ?k3 ?a4 ?l4 ?c4 ?k4 ?a5 ?l5 ?c5 ?k5 ?a6 ?l6 ?c6 ?k6 ?a7 ?l7 ?c7 ?k7 ?a8 ?l8 ?c8 ?k8 ?a9 ?l9 ?c9 ?k9 ?a10 ?l10 ?c10 ?k10 ?a11 ?l11 ?c11 ?k11 ?a12 ?l12 ?c12 ?k12 ?a13 ?l13 ?c13 ?k13 ?a14 ?l14 ?c14 ?k14 ?a15 ?l15 ?c15 ?k15 ?a16 ?l16 ?c16 ?k16 ?l17 ?c17 ?k17 ?kd17 ?a18 ?l18 ?c18 ?k18 ?a19 ?l19 ?c19 ?k19 ?a20 ?l20 ?c20 ?k20 ?a21 ?l21 ?c21 ?k21 ?a22 ?l22 ?c22 ?k22 ?a23 ?l23 ?c23 ?k23 ?a24 ?l24 ?c24 ?k24 ?a25 ?l25 ?c25 ?k25 ?a26 ?l26 ?c26 ?k26 ?a27 ?l27 ?c27 ?k27 ?a28 ?l28 ?c28 ?k28 ?a29 ?l29 ?c29 ?k29 ?a30 ?l30 ?c30 ?k30 ?l31 ?c31 ?k31 ?a32 ?l32 ?c32 ?k32 ?a33 ?l33 ?c33 ?k33 ?a34 ?l34 ?c34 ?k34 ?a35 ?l35 ?c35 ?k35 ?a36 ?l36 ?c36 ?k36 ?a37 ?l37 ?c37 ?k37 ?a38 ?l38 ?c38 ?k38 ?a39 ?l39 ?c39 ?k39 ?a40 ?l40 ?c40 ?k40 ?a41 ?l41 ?c41 ?k41 ?a42 ?l42 ?c42 ?k42 ?a43 ?l43 ?c43 ?k43 ?pgBox ?hdBox ?poBox ?saBox ?mkBox ?ifBox ?ckBox ?pgFonts ?hdFonts ?poFonts ?saFonts ?mkFonts ?ifFonts ?ckFonts ?mf31 ?qfBox ?qlBox ?qmBox ?qkBox ?qvBox ?qwBox ?nadepthBox ?nafamily_rowsFonts ?naheightBox ?namarksBox ?nanumber_rowsFonts ?nasetting_rowsFonts ?naskew_nameFonts ?nawidthBox ?zall ?zbool ?zdict ?zenumerate ?zint ?zisinstance ?zlen ?zlist ?zmax ?zrange ?zsorted ?zstr ?ztuple ?zzip ?gcLETTERS ?gcMOST ?gcMOST_FACTOR ?gcMOST_FAMILIES ?gcMOST_GLYPHS ?gcMOST_LETTERS ?gcSETTINGS ?klSETTINGS_1 ?gcWORDS ?klWORDS_13 ?xhn ?xtk ?xcBox ?xmBox ?xtBox ?xoBoxint ?xoBoxbool ?xoBoxstr ?xoBoxlist ?xoBoxtuple ?xoBoxdict ?xxBoxFonts ?xnBoxFonts ?xcFonts ?xmFonts ?xtFonts ?xoFontsint ?xoFontsbool ?xoFontsstr ?xoFontslist ?xoFontstuple ?xoFontsdict ?xxFontsBox ?xnFontsBox
    (case gBox => k_is)
    (case inBox => k_is)
    (case gFonts => k_is)
    (case inFonts => k_is)
    (case mt31 => k_is)
    (case qeBox => k_is)
    (case gInvalidBox => k_is)
    (case a0 => k_is)
    (case l0 => k_is)
    (case c0 => k_is)
    (case k0 => k_is)
    (case l1 => k_is)
    (case c1 => k_is)
    (case k1 => k_is)
    (case l2 => k_is)
    (case c2 => k_is)
    (case k2 => k_is)
    (case d2 => k_is)
    (case de2 => k_is)
    (case a3 => k_is)
    (case l3 => k_is)
    (case c3 => k_is)
    (case k3 => k_is)
    (case a4 => k_is)
    (case l4 => k_is)
    (case c4 => k_is)
    (case k4 => k_is)
    (case a5 => k_is)
    (case l5 => k_is)
    (case c5 => k_is)
    (case k5 => k_is)
    (case a6 => k_is)
    (case l6 => k_is)
    (case c6 => k_is)
    (case k6 => k_is)
    (case a7 => k_is)
    (case l7 => k_is)
    (case c7 => k_is)
    (case k7 => k_is)
    (case a8 => k_is)
    (case l8 => k_is)
    (case c8 => k_is)
    (case k8 => k_is)
    (case a9 => k_is)
    (case l9 => k_is)
    (case c9 => k_is)
    (case k9 => k_is)
    (case a10 => k_is)
    (case l10 => k_is)
    (case c10 => k_is)
    (case k10 => k_is)
    (case a11 => k_is)
    (case l11 => k_is)
    (case c11 => k_is)
    (case k11 => k_is)
    (case a12 => k_is)
    (case l12 => k_is)
    (case c12 => k_is)
    (case k12 => k_is)
    (case a13 => k_is)
    (case l13 => k_is)
    (case c13 => k_is)
    (case k13 => k_is)
    (case a14 => k_is)
    (case l14 => k_is)
    (case c14 => k_is)
    (case k14 => k_is)
    (case a15 => k_is)
    (case l15 => k_is)
    (case c15 => k_is)
    (case k15 => k_is)
    (case a16 => k_is)
    (case l16 => k_is)
    (case c16 => k_is)
    (case k16 => k_is)
    (case l17 => k_is)
    (case c17 => k_is)
    (case k17 => k_is)
    (case kd17 => k_is)
    (case a18 => k_is)
    (case l18 => k_is)
    (case c18 => k_is)
    (case k18 => k_is)
    (case a19 => k_is)
    (case l19 => k_is)
    (case c19 => k_is)
    (case k19 => k_is)
    (case a20 => k_is)
    (case l20 => k_is)
    (case c20 => k_is)
    (case k20 => k_is)
    (case a21 => k_is)
    (case l21 => k_is)
    (case c21 => k_is)
    (case k21 => k_is)
    (case a22 => k_is)
    (case l22 => k_is)
    (case c22 => k_is)
    (case k22 => k_is)
    (case a23 => k_is)
    (case l23 => k_is)
    (case c23 => k_is)
    (case k23 => k_is)
    (case a24 => k_is)
    (case l24 => k_is)
    (case c24 => k_is)
    (case k24 => k_is)
    (case a25 => k_is)
    (case l25 => k_is)
    (case c25 => k_is)
    (case k25 => k_is)
    (case a26 => k_is)
    (case l26 => k_is)
    (case c26 => k_is)
    (case k26 => k_is)
    (case a27 => k_is)
    (case l27 => k_is)
    (case c27 => k_is)
    (case k27 => k_is)
    (case a28 => k_is)
    (case l28 => k_is)
    (case c28 => k_is)
    (case k28 => k_is)
    (case a29 => k_is)
    (case l29 => k_is)
    (case c29 => k_is)
    (case k29 => k_is)
    (case a30 => k_is)
    (case l30 => k_is)
    (case c30 => k_is)
    (case k30 => k_is)
    (case l31 => k_is)
    (case c31 => k_is)
    (case k31 => k_is)
    (case a32 => k_is)
    (case l32 => k_is)
    (case c32 => k_is)
    (case k32 => k_is)
    (case a33 => k_is)
    (case l33 => k_is)
    (case c33 => k_is)
    (case k33 => k_is)
    (case a34 => k_is)
    (case l34 => k_is)
    (case c34 => k_is)
    (case k34 => k_is)
    (case a35 => k_is)
    (case l35 => k_is)
    (case c35 => k_is)
    (case k35 => k_is)
    (case a36 => k_is)
    (case l36 => k_is)
    (case c36 => k_is)
    (case k36 => k_is)
    (case a37 => k_is)
    (case l37 => k_is)
    (case c37 => k_is)
    (case k37 => k_is)
    (case a38 => k_is)
    (case l38 => k_is)
    (case c38 => k_is)
    (case k38 => k_is)
    (case a39 => k_is)
    (case l39 => k_is)
    (case c39 => k_is)
    (case k39 => k_is)
    (case a40 => k_is)
    (case l40 => k_is)
    (case c40 => k_is)
    (case k40 => k_is)
    (case a41 => k_is)
    (case l41 => k_is)
    (case c41 => k_is)
    (case k41 => k_is)
    (case a42 => k_is)
    (case l42 => k_is)
    (case c42 => k_is)
    (case k42 => k_is)
    (case a43 => k_is)
    (case l43 => k_is)
    (case c43 => k_is)
    (case k43 => k_is)
    (case pgBox => k_is)
    (case hdBox => k_is)
    (case poBox => k_is)
    (case saBox => k_is)
    (case mkBox => k_is)
    (case ifBox => k_is)
    (case ckBox => k_is)
    (case pgFonts => k_is)
    (case hdFonts => k_is)
    (case poFonts => k_is)
    (case saFonts => k_is)
    (case mkFonts => k_is)
    (case ifFonts => k_is)
    (case ckFonts => k_is)
    (case mf31 => k_is)
    (case qfBox => k_is)
    (case qlBox => k_is)
    (case qmBox => k_is)
    (case qkBox => rfl)
    (case qvBox => rfl)
    (case qwBox => rfl)
    (case nadepthBox => k_is)
    (case nafamily_rowsFonts => k_is)
    (case naheightBox => k_is)
    (case namarksBox => k_is)
    (case nanumber_rowsFonts => k_is)
    (case nasetting_rowsFonts => k_is)
    (case naskew_nameFonts => k_is)
    (case nawidthBox => k_is)
    (case zall => k_is)
    (case zbool => k_is)
    (case zdict => k_is)
    (case zenumerate => k_is)
    (case zint => k_is)
    (case zisinstance => k_is)
    (case zlen => k_is)
    (case zlist => k_is)
    (case zmax => k_is)
    (case zrange => k_is)
    (case zsorted => k_is)
    (case zstr => k_is)
    (case ztuple => k_is)
    (case zzip => k_is)
    (case gcLETTERS => k_is)
    (case gcMOST => k_is)
    (case gcMOST_FACTOR => k_is)
    (case gcMOST_FAMILIES => k_is)
    (case gcMOST_GLYPHS => k_is)
    (case gcMOST_LETTERS => k_is)
    (case gcSETTINGS => k_is)
    (case klSETTINGS_1 => k_is)
    (case gcWORDS => k_is)
    (case klWORDS_13 => k_is)
    (case xhn => k_is)
    (case xtk => k_is)
    (case xcBox => k_is)
    (case xmBox => k_is)
    (case xtBox => k_is)
    (case xoBoxint => k_is)
    (case xoBoxbool => k_is)
    (case xoBoxstr => k_is)
    (case xoBoxlist => k_is)
    (case xoBoxtuple => k_is)
    (case xoBoxdict => k_is)
    (case xxBoxFonts => k_is)
    (case xnBoxFonts => rfl)
    (case xcFonts => k_is)
    (case xmFonts => k_is)
    (case xtFonts => k_is)
    (case xoFontsint => k_is)
    (case xoFontsbool => k_is)
    (case xoFontsstr => k_is)
    (case xoFontslist => k_is)
    (case xoFontstuple => k_is)
    (case xoFontsdict => k_is)
    (case xxFontsBox => k_is)
    (case xnFontsBox => rfl)
end
