import PyProof.Rows.All
import Wide.All
import OpenK.AllK
import Wide.FinOn
import HandS.ForMost
import HandS.Exc
import HandS.TupAny
import HandS.TupMul
import HandS.TupLen
import HandS.IsInst
import HandS.Deep
import HandS.Style
import HandS.Walk
import HandS.WordsExc
import HandS.CallSlots
import HandS.Sort
import HandS.More
import HandS.Text
import HandS.RaiseMore
import HandS.Small
import HandS.WordsDict
import KE.SortData
import KE.GoesMore
import PyProof.ReprRoads
import KE.KStrBytes
import HandS.Set
import HandS.SetKeys
import HandS.SetBool
import HandS.SetFor
import HandS.Zip
import HandS.Defaults
import HandS.FStr
import KE.KCallOwn
import HandS.Conv
import PyProof.ListStr
import HandS.ExcInit
import PyProof.ExcBaseAll.RuntimeError
import PyProof.ExcBaseAll.ArithmeticError
import PyProof.FString2
import HandS.TupLe
import PySem.Challenge.RW_doorlots_k02_house_values
import KE.RegKIsAll

section TxtDm1
set_option Elab.async false
set_option linter.all false
set_option maxRecDepth 100000
/-! Dm1: data, what stands for data, the state of a def's slots, steps. -/
namespace Dm
open PySem PySem.Spec PyProof.Rows L2

/-- plain data -/
inductive D where
  | non | bl (b : Bool) | int (i : Int) | str (x : Str) | ty (n : String) | cls (c : Str)
  | tup (ds : List D) | lst (ds : List D) | scr (ns : List Int)
  | dK (es : List (Key × D)) | dT (es : List (List Key × D))
  | ins (c : Str) (fs : List (Str × D)) | exc (c : Str) (fs : List (Str × D))
  deriving Inhabited

/-- what a slot holds: frozen data, or a list, dict, instance of its own -/
inductive C where
  | v (d : D) | L (ds : List D) | dK (es : List (Key × D)) | dT (es : List (List Key × D)) | O (c : Str) (fs : List (Str × D))
  deriving Inhabited
def C.own : C → Bool
  | .v _ => false
  | _ => true
def C.toD : C → D
  | .v d => d
  | .L ds => .lst ds
  | .dK es => .dK es
  | .dT es => .dT es
  | .O c fs => .ins c fs
abbrev En := List (Option C)

/-- an expression's result: frozen data, a new thing of its own, what slot i holds -/
inductive R where
  | v (d : D) | o (c : C) | s (i : Nat)
  deriving Inhabited
inductive Ou (α : Type) where
  | ok (a : α) (ρ : En) | er (x : D) (ρ : En) | st
def Ou.bn {α β : Type} (x : Ou α) (f : α → En → Ou β) : Ou β :=
  match x with
  | .ok a ρ => f a ρ
  | .er e ρ => .er e ρ
  | .st => .st
@[simp] theorem Ou.bn_ok {α β : Type} (a : α) (ρ : En) (f : α → En → Ou β) : (Ou.ok a ρ).bn f = f a ρ := rfl
@[simp] theorem Ou.bn_er {α β : Type} (e : D) (ρ : En) (f : α → En → Ou β) : (Ou.er e ρ : Ou α).bn f = .er e ρ := rfl
@[simp] theorem Ou.bn_st {α β : Type} (f : α → En → Ou β) : (Ou.st : Ou α).bn f = .st := rfl

/-- where cl tells the address of an exception's class -/
def xk (c : Str) : Str := ⟨#[33] ++ c.cps⟩
def isX (c : Str) : Bool := c.cps[0]? == some 33
theorem isX_xk (c : Str) : isX (xk c) = true := by
  have e : (#[33] ++ c.cps)[0]? = some 33 := by rw [Array.getElem?_append_left (by decide)]; rfl
  unfold isX xk
  rw [e]
  rfl
/-- a caught exception -/
def exT (a A dx : Addr) : HO := .ext fun h => ∃ (oe : Obj) (vs : Array Value), h.get? a = some oe ∧ Zc (.ref A) (some dx) oe ∧ oe.data = .fields vs
section
variable (K : PySem.W.Frag) (cl : Str → Option Addr) (F : Hp)
inductive Rep : V → D → Prop
  | non : Rep .non .non
  | bl (b : Bool) : Rep (.bl b) (.bl b)
  | int (i : Int) : Rep (.int i) (.int i)
  | str (x : Str) : Rep (.str x) (.str x)
  | ty (n : String) : Rep (.ty n) (.ty n)
  | cls {c : Str} {a : Addr} (h : cl c = some a) : Rep (.ref a) (.cls c)
  | tup {a : Addr} {vs : List V} {ds : List D} (h : SqT K F a vs) (e : vs = [] ∨ F a = some (.tup vs)) (l : vs.length = ds.length) (r : ∀ (i : Nat) v d, vs[i]? = some v → ds[i]? = some d → Rep v d) : Rep (.ref a) (.tup ds)
  | lst {a : Addr} {vs : List V} {ds : List D} (h : F a = some (.lst vs)) (l : vs.length = ds.length) (r : ∀ (i : Nat) v d, vs[i]? = some v → ds[i]? = some d → Rep v d) : Rep (.ref a) (.lst ds)
  | scr {a : Addr} {ns : List Int} (h : SqL K F a (ns.map V.int)) : Rep (.ref a) (.scr ns)
  | dK {a : Addr} {kvs : List (Key × V)} {es : List (Key × D)} (h : F a = some (.dK kvs)) (l : kvs.map (·.1) = es.map (·.1)) (r : ∀ (i : Nat) p q, kvs[i]? = some p → es[i]? = some q → Rep p.2 q.2) : Rep (.ref a) (.dK es)
  | dT {a : Addr} {kvs : List (List Key × V)} {es : List (List Key × D)} (h : F a = some (.dT kvs)) (l : kvs.map (·.1) = es.map (·.1)) (r : ∀ (i : Nat) p q, kvs[i]? = some p → es[i]? = some q → Rep p.2 q.2) : Rep (.ref a) (.dT es)
  | ins {a A dx : Addr} {c : Str} {gs : List (Str × V)} {fs : List (Str × D)} (hc : cl c = some A) (h : F a = some (.ins A dx gs)) (l : gs.map (·.1) = fs.map (·.1)) (r : ∀ (i : Nat) p q, gs[i]? = some p → fs[i]? = some q → Rep p.2 q.2) : Rep (.ref a) (.ins c fs)
  | exc {a A dx : Addr} {c : Str} {gs : List (Str × V)} {fs : List (Str × D)} (hc : cl (xk c) = some A) (h : F a = some (exT a A dx)) (hd : F dx = some (.xd gs)) (l : gs.map (·.1) = fs.map (·.1)) (r : ∀ (i : Nat) p q, gs[i]? = some p → fs[i]? = some q → Rep p.2 q.2) : Rep (.ref a) (.exc c fs)
/-- a list of values for a list of data -/
def RepL (vs : List V) (ds : List D) : Prop := vs.length = ds.length ∧ ∀ (i : Nat) v d, vs[i]? = some v → ds[i]? = some d → Rep K cl F v d
def RepKs {κ : Type} (kvs : List (κ × V)) (es : List (κ × D)) : Prop := kvs.map (·.1) = es.map (·.1) ∧ ∀ (i : Nat) p q, kvs[i]? = some p → es[i]? = some q → Rep K cl F p.2 q.2
/-- what a tracked object is, of a slot's content -/
def OwnAt (o : HO) : C → Prop
  | .v _ => False
  | .L ds => ∃ vs, o = .lst vs ∧ RepL K cl F vs ds
  | .dK es => ∃ kvs, o = .dK kvs ∧ RepKs K cl F kvs es
  | .dT es => ∃ kvs, o = .dT kvs ∧ RepKs K cl F kvs es
  | .O c fs => ∃ A dx gs, o = .ins A dx gs ∧ cl c = some A ∧ RepKs K cl F gs fs
end
def isDic : HO → Prop
  | .dK _ => True
  | .dT _ => True
  | _ => False
/-- the frozen part stands in the heap (a dict may be locked) -/
def Sub (F H : Hp) : Prop := ∀ a o, F a = some o → H a = some o ∨ (isDic o ∧ ∃ ob, H a = some (.frz ob o))
def OwnS (σ : L2.St) (ρ : En) (p : Addr) : Prop := ∃ (i : Nat) (c : C), ρ[i]? = some (some c) ∧ c.own = true ∧ σ[i]? = some (some (.ref p))
/-- things that no slot owns -/
inductive Shr : HO → Prop
  | tup (xs : List V) : Shr (.tup xs)
structure Sta (K : PySem.W.Frag) (cl : Str → Option Addr) (F : Hp) (σ : L2.St) (H : Hp) (ρ : En) : Prop where
  sub : Sub F H
  len : ρ.length = σ.length
  val : ∀ (i : Nat) d, ρ[i]? = some (some (.v d)) → ∃ x, σ[i]? = some (some x) ∧ Rep K cl F x d
  own : ∀ (i : Nat) c, ρ[i]? = some (some c) → c.own = true → ∃ p o, σ[i]? = some (some (.ref p)) ∧ F p = none ∧ H p = some o ∧ OwnAt K cl F o c
  sep : ∀ (i j : Nat) ci cj p, ρ[i]? = some (some ci) → ρ[j]? = some (some cj) → ci.own = true → cj.own = true → σ[i]? = some (some (.ref p)) → σ[j]? = some (some (.ref p)) → i = j
/-- from one state to a later one: pn: slots that are never stored again -/
structure Stp (pn : Nat → Bool) (σ : L2.St) (ρ : En) (F H : Hp) (σ' : L2.St) (ρ' : En) (F' H' : Hp) : Prop where
  mono : ∀ a o, F a = some o → F' a = some o
  keep : ∀ p o, H p = some o → ¬ OwnS σ ρ p → H' p = some o
  free : ∀ p o, H p = some o → ¬ OwnS σ ρ p → F p = none → F' p = none ∨ Shr o
  own : ∀ p, OwnS σ' ρ' p → OwnS σ ρ p ∨ H p = none
  pin : ∀ i, pn i = true → σ'[i]? = σ[i]?
  thr : ∀ p o, H p = some o → ∃ o', H' p = some o'
  len : σ'.length = σ.length

section
variable {K : PySem.W.Frag} {cl : Str → Option Addr} {F F' F1 F2 H H' H1 H2 : Hp} {σ σ1 σ2 : L2.St} {ρ ρ1 ρ2 : En} {pn : Nat → Bool} {v : V} {d : D}
theorem sqT_mono {a : Addr} {vs : List V} (m : ∀ a o, F a = some o → F' a = some o) (h : SqT K F a vs) : SqT K F' a vs := by
  rcases h with (h | ⟨o, h⟩) | h
  · exact .inl (.inl (m _ _ h))
  · exact .inl (.inr ⟨o, m _ _ h⟩)
  · exact .inr h
theorem sqL_mono {a : Addr} {vs : List V} (m : ∀ a o, F a = some o → F' a = some o) (h : SqL K F a vs) : SqL K F' a vs := by
  rcases h with (h | ⟨o, h⟩) | h
  · exact .inl (.inl (m _ _ h))
  · exact .inl (.inr ⟨o, m _ _ h⟩)
  · exact .inr h
theorem Rep.mono (m : ∀ a o, F a = some o → F' a = some o) (h : Rep K cl F v d) : Rep K cl F' v d := by
  induction h with
  | non => exact .non
  | bl b => exact .bl b
  | int i => exact .int i
  | str x => exact .str x
  | ty n => exact .ty n
  | cls h => exact .cls h
  | tup h e l r ih => exact .tup (sqT_mono m h) (e.imp id (m _ _)) l ih
  | lst h l r ih => exact .lst (m _ _ h) l ih
  | scr h => exact .scr (sqL_mono m h)
  | dK h l r ih => exact .dK (m _ _ h) l ih
  | dT h l r ih => exact .dT (m _ _ h) l ih
  | ins hc h l r ih => exact .ins hc (m _ _ h) l ih
  | exc hc h hd l r ih => exact .exc hc (m _ _ h) (m _ _ hd) l ih
theorem RepL.mono {vs : List V} {ds : List D} (m : ∀ a o, F a = some o → F' a = some o) (h : RepL K cl F vs ds) : RepL K cl F' vs ds := ⟨h.1, fun i v d a b => (h.2 i v d a b).mono m⟩
theorem RepKs.mono {κ : Type} {vs : List (κ × V)} {ds : List (κ × D)} (m : ∀ a o, F a = some o → F' a = some o) (h : RepKs K cl F vs ds) : RepKs K cl F' vs ds := ⟨h.1, fun i v d a b => (h.2 i v d a b).mono m⟩
theorem OwnAt.mono {o : HO} {c : C} (m : ∀ a o, F a = some o → F' a = some o) (h : OwnAt K cl F o c) : OwnAt K cl F' o c := by
  cases c with
  | v d => exact h
  | L ds => obtain ⟨vs, e, r⟩ := h; exact ⟨vs, e, r.mono m⟩
  | dK ds => obtain ⟨vs, e, r⟩ := h; exact ⟨vs, e, r.mono m⟩
  | dT ds => obtain ⟨vs, e, r⟩ := h; exact ⟨vs, e, r.mono m⟩
  | O c fs => obtain ⟨A, dx, gs, e, r1, r⟩ := h; exact ⟨A, dx, gs, e, r1, r.mono m⟩
theorem OwnAt.ns {o : HO} {c : C} (h : OwnAt K cl F o c) (hc : c.own = true) : ¬ Shr o := by
  cases c with
  | v d => cases hc
  | L ds => obtain ⟨vs, rfl, r⟩ := h; intro z; cases z
  | dK ds => obtain ⟨vs, rfl, r⟩ := h; intro z; cases z
  | dT ds => obtain ⟨vs, rfl, r⟩ := h; intro z; cases z
  | O c fs => obtain ⟨A, dx, gs, rfl, r1, r⟩ := h; intro z; cases z
theorem sqT_sub {a : Addr} {vs : List V} (m : Sub F H) (h : SqT K F a vs) : SqT K H a vs := by
  rcases h with (h | ⟨o, h⟩) | h
  · rcases m _ _ h with q | ⟨q, _⟩
    · exact .inl (.inl q)
    · exact q.elim
  · rcases m _ _ h with q | ⟨q, _⟩
    · exact .inl (.inr ⟨o, q⟩)
    · exact q.elim
  · exact .inr h
theorem sqL_sub {a : Addr} {vs : List V} (m : Sub F H) (h : SqL K F a vs) : SqL K H a vs := by
  rcases h with (h | ⟨o, h⟩) | h
  · rcases m _ _ h with q | ⟨q, _⟩
    · exact .inl (.inl q)
    · exact q.elim
  · rcases m _ _ h with q | ⟨q, _⟩
    · exact .inl (.inr ⟨o, q⟩)
    · exact q.elim
  · exact .inr h
theorem sub_not {a : Addr} {o : HO} (m : Sub F H) (n : ¬ isDic o) (h : F a = some o) : H a = some o := by
  rcases m _ _ h with q | ⟨q, _⟩
  · exact q
  · exact (n q).elim
theorem sub_rd {a : Addr} {o : HO} (m : Sub F H) (h : F a = some o) : Rd H a o := by
  rcases m _ _ h with q | ⟨_, q⟩
  · exact .inl q
  · exact .inr q
theorem Stp.refl : Stp pn σ ρ F H σ ρ F H := ⟨fun _ _ h => h, fun _ _ h _ => h, fun _ _ _ _ h => .inl h, fun _ h => .inl h, fun _ _ => rfl, fun _ o h => ⟨o, h⟩, rfl⟩
theorem Stp.trans (a : Stp pn σ ρ F H σ1 ρ1 F1 H1) (b : Stp pn σ1 ρ1 F1 H1 σ2 ρ2 F2 H2) : Stp pn σ ρ F H σ2 ρ2 F2 H2 := by
  have nown : ∀ p o, H p = some o → ¬ OwnS σ ρ p → ¬ OwnS σ1 ρ1 p := fun p o h n q => by
    rcases a.own p q with z | z
    · exact n z
    · rw [h] at z; cases z
  refine ⟨fun x o h => b.mono x o (a.mono x o h), fun p o h n => b.keep p o (a.keep p o h n) (nown p o h n), fun p o h n e => (a.free p o h n e).elim (fun z => b.free p o (a.keep p o h n) (nown p o h n) z) .inr, fun p q => ?_, fun i h => (b.pin i h).trans (a.pin i h), fun p o h => ?_, b.len.trans a.len⟩
  · rcases b.own p q with z | z
    · exact a.own p z
    · cases e : H p with
      | none => exact .inr rfl
      | some o =>
        obtain ⟨o', q'⟩ := a.thr p o e
        rw [q'] at z; cases z
  · obtain ⟨o1, h1⟩ := a.thr p o h
    exact b.thr p o1 h1
theorem Stp.non0 (a : Stp pn σ ρ F H σ1 ρ1 F1 H1) {p : Addr} (h : H1 p = none) : H p = none := by
  cases e : H p with
  | none => rfl
  | some o =>
    obtain ⟨o', q⟩ := a.thr p o e
    rw [h] at q; cases q

/-- what a result stands for; σ0, ρ0, H0: where the step began -/
def RelR (K : PySem.W.Frag) (cl : Str → Option Addr) (σ0 : L2.St) (ρ0 : En) (H0 : Hp) (σ : L2.St) (ρ : En) (F H : Hp) (x : V) : R → Prop
  | .v d => Rep K cl F x d
  | .o c => ∃ p o, x = .ref p ∧ c.own = true ∧ F p = none ∧ H p = some o ∧ OwnAt K cl F o c ∧ ¬ OwnS σ ρ p ∧ (OwnS σ0 ρ0 p ∨ H0 p = none)
  | .s i => σ[i]? = some (some x)
/-- the same further on (the slots stay) -/
theorem RelR.step {σ0 : L2.St} {ρ0 : En} {H0 : Hp} {x : V} {r : R} (h : RelR K cl σ0 ρ0 H0 σ ρ F H x r) (s : Stp pn σ ρ F H σ ρ1 F1 H1) : RelR K cl σ0 ρ0 H0 σ ρ1 F1 H1 x r := by
  cases r with
  | v d => exact Rep.mono s.mono h
  | s i => exact h
  | o c =>
    obtain ⟨p, o, e, ho, hf, hh, ha, hn, hs⟩ := h
    refine ⟨p, o, e, ho, (s.free p o hh hn hf).resolve_right (ha.ns ho), s.keep p o hh hn, ha.mono s.mono, fun q => ?_, hs⟩
    rcases s.own p q with z | z
    · exact hn z
    · rw [hh] at z; cases z
/-- where the step began earlier -/
theorem RelR.from {σ0 : L2.St} {ρ0 : En} {H0 F0 : Hp} {σa : L2.St} {ρa : En} {Fa Ha : Hp} {x : V} {r : R} (h : RelR K cl σ0 ρ0 H0 σ ρ F H x r) (s : Stp pn σa ρa Fa Ha σ0 ρ0 F0 H0) : RelR K cl σa ρa Ha σ ρ F H x r := by
  cases r with
  | v d => exact h
  | s i => exact h
  | o c =>
    obtain ⟨p, o, e, ho, hf, hh, ha, hn, hs⟩ := h
    refine ⟨p, o, e, ho, hf, hh, ha, hn, ?_⟩
    rcases hs with z | z
    · exact s.own p z
    · exact .inr (s.non0 z)
/-- an exception: an instance of a class of the text, its dict -/
def ErrOk (K : PySem.W.Frag) (cl : Str → Option Addr) (F : Hp) (x : D) (cls : Value) (dx : Option Addr) : Prop :=
  ∃ c fs A a gs, x = .exc c fs ∧ cl (xk c) = some A ∧ cls = .ref A ∧ dx = some a ∧ F a = some (.xd gs) ∧ RepKs K cl F gs fs
end

/-! ### what is wanted behind an expression; the judgement -/
section
variable (K : PySem.W.Frag) (cl : Str → Option Addr)
def PstE (W : WX) (Q : VK) (σ : L2.St) (ρ : En) (F H : Hp) : Ou R → Prop
  | .ok r ρ' => ∀ x F' H', Sta K cl F' σ H' ρ' → Stp (fun _ => true) σ ρ F H σ ρ' F' H' → RelR K cl σ ρ H σ ρ' F' H' x r → Q x H'
  | .er e ρ' => ∀ c d F' H', Sta K cl F' σ H' ρ' → Stp (fun _ => true) σ ρ F H σ ρ' F' H' → ErrOk K cl F' e c d → W c d σ H'
  | .st => False
def EvE (W : WX) (te : TE) (ex : En → Ou R) : Prop := ∀ F σ H ρ Q, Sta K cl F σ H ρ → PstE K cl W Q σ ρ F H (ex ρ) → te σ H Q
end
def EE (cl : Str → Option Addr) (X : Cx) (e : Expr) (ex : En → Ou R) : Prop := ∀ W, Takes X W → ∃ t, PE X e t ∧ EvE X.K cl W t ex
end Dm
end TxtDm1

section TxtDm2
set_option Elab.async false
set_option linter.all false
set_option maxRecDepth 100000
/-! Dm2: expressions: values, operators by their mirrors. -/
namespace Dm
open PySem PySem.Spec PyProof.Rows L2

def toVal (r : R) (ρ : En) : Option (D × En) :=
  match r with
  | .v d => some (d, ρ)
  | .o c => some (c.toD, ρ)
  | .s i => match ρ[i]? with
    | some (some (.v d)) => some (d, ρ)
    | some (some c) => some (c.toD, ρ.set i (some (.v c.toD)))
    | _ => none
def pk (r : R) (ρ : En) : Option D :=
  match r with
  | .v d => some d
  | .o c => some c.toD
  | .s i => match ρ[i]? with
    | some (some c) => some c.toD
    | _ => none
def vl (ex : En → Ou R) : En → Ou D := fun ρ => (ex ρ).bn fun r ρ1 => match toVal r ρ1 with
  | some (d, ρ2) => .ok d ρ2
  | none => .st

section
variable (K : PySem.W.Frag) (cl : Str → Option Addr)
def PstV (W : WX) (Q : VK) (σ : L2.St) (ρ : En) (F H : Hp) : Ou D → Prop
  | .ok d ρ' => ∀ x F' H', Sta K cl F' σ H' ρ' → Stp (fun _ => true) σ ρ F H σ ρ' F' H' → Rep K cl F' x d → Q x H'
  | .er e ρ' => ∀ c d F' H', Sta K cl F' σ H' ρ' → Stp (fun _ => true) σ ρ F H σ ρ' F' H' → ErrOk K cl F' e c d → W c d σ H'
  | .st => False
def EvV (W : WX) (te : TE) (ex : En → Ou D) : Prop := ∀ F σ H ρ Q, Sta K cl F σ H ρ → PstV K cl W Q σ ρ F H (ex ρ) → te σ H Q
/-- what a thing that is looked at stands for: its own part in H, what it holds in F -/
def Pk (F H : Hp) (x : V) : D → Prop
  | .lst ds => ∃ a vs, x = .ref a ∧ H a = some (.lst vs) ∧ RepL K cl F vs ds
  | .tup ds => Rep K cl F x (.tup ds) ∧ ∃ a vs, x = .ref a ∧ SqT K H a vs ∧ (vs = [] ∨ H a = some (.tup vs)) ∧ RepL K cl F vs ds
  | .scr ns => ∃ a, x = .ref a ∧ SqL K H a (ns.map V.int)
  | .dK es => ∃ a kvs, x = .ref a ∧ Rd H a (.dK kvs) ∧ RepKs K cl F kvs es
  | .dT es => ∃ a kvs, x = .ref a ∧ Rd H a (.dT kvs) ∧ RepKs K cl F kvs es
  | .ins c fs => ∃ a A dx gs, x = .ref a ∧ cl c = some A ∧ H a = some (.ins A dx gs) ∧ RepKs K cl F gs fs
  | .exc c fs => ∃ a A dx gs, x = .ref a ∧ cl (xk c) = some A ∧ H a = some (exT a A dx) ∧ H dx = some (.xd gs) ∧ RepKs K cl F gs fs
  | .non => x = .non
  | .bl b => x = .bl b
  | .int i => x = .int i
  | .str z => x = .str z
  | .ty n => x = .ty n
  | .cls c => ∃ a, x = .ref a ∧ cl c = some a
/-- new things beside what stood -/
structure Grow (F H F' H' : Hp) : Prop where
  mono : ∀ a o, F a = some o → F' a = some o
  sub : Sub F' H'
  keep : ∀ p o, H p = some o → H' p = some o
  free : ∀ p o, H p = some o → F p = none → F' p = none ∨ Shr o
def ResR (F H F' H' : Hp) (z : V) : R → Prop
  | .v d => Rep K cl F' z d
  | .o c => ∃ p o, z = .ref p ∧ c.own = true ∧ H p = none ∧ F' p = none ∧ H' p = some o ∧ OwnAt K cl F' o c
  | .s _ => False
end

section
variable {K : PySem.W.Frag} {cl : Str → Option Addr} {F F' F1 F2 H H' H1 H2 : Hp} {σ σ1 σ2 σ0 : L2.St} {ρ ρ0 ρ1 ρ2 : En} {pn : Nat → Bool} {v x : V} {d : D} {W : WX}

theorem Rep.pk (s : Sub F H) (h : Rep K cl F x d) : Pk K cl F H x d := by
  cases h with
  | non => rfl
  | bl b => rfl
  | int i => rfl
  | str x => rfl
  | ty n => rfl
  | cls h => exact ⟨_, rfl, h⟩
  | tup h e l r => exact ⟨.tup h e l r, _, _, rfl, sqT_sub s h, e.imp id (sub_not s (fun z => z)), l, r⟩
  | lst h l r => exact ⟨_, _, rfl, sub_not s (fun z => z) h, l, r⟩
  | scr h => exact ⟨_, rfl, sqL_sub s h⟩
  | dK h l r => exact ⟨_, _, rfl, sub_rd s h, l, r⟩
  | exc hc h hd l r => exact ⟨_, _, _, _, rfl, hc, sub_not s (fun z => z) h, sub_not s (fun z => z) hd, l, r⟩
  | dT h l r => exact ⟨_, _, rfl, sub_rd s h, l, r⟩
  | ins hc h l r => exact ⟨_, _, _, _, rfl, hc, sub_not s (fun z => z) h, l, r⟩
theorem OwnAt.pk {o : HO} {c : C} {p : Addr} (hp : H p = some o) (h : OwnAt K cl F o c) : Pk K cl F H (.ref p) c.toD := by
  cases c with
  | v d => exact h.elim
  | L ds => obtain ⟨vs, rfl, r⟩ := h; exact ⟨p, vs, rfl, hp, r⟩
  | dK ds => obtain ⟨vs, rfl, r⟩ := h; exact ⟨p, vs, rfl, .inl hp, r⟩
  | dT ds => obtain ⟨vs, rfl, r⟩ := h; exact ⟨p, vs, rfl, .inl hp, r⟩
  | O c fs => obtain ⟨A, dx, gs, rfl, r1, r⟩ := h; exact ⟨p, A, dx, gs, rfl, r1, hp, r⟩
theorem OwnAt.rep {o : HO} {c : C} {p : Addr} (hp : F p = some o) (h : OwnAt K cl F o c) : Rep K cl F (.ref p) c.toD := by
  cases c with
  | v d => exact h.elim
  | L ds => obtain ⟨vs, rfl, r⟩ := h; exact .lst hp r.1 r.2
  | dK ds => obtain ⟨vs, rfl, r⟩ := h; exact .dK hp r.1 r.2
  | dT ds => obtain ⟨vs, rfl, r⟩ := h; exact .dT hp r.1 r.2
  | O c fs => obtain ⟨A, dx, gs, rfl, r1, r⟩ := h; exact .ins r1 hp r.1 r.2
theorem pk_ok {r : R} (S : Sta K cl F σ H ρ) (h : RelR K cl σ0 ρ0 H1 σ ρ F H x r) (e : pk r ρ = some d) : Pk K cl F H x d := by
  cases r with
  | v d' => cases e; exact Rep.pk S.sub h
  | o c =>
    cases e
    obtain ⟨p, o, rfl, ho, hf, hh, ha, hn, hs⟩ := h
    exact ha.pk hh
  | s i =>
    have h' : σ[i]? = some (some x) := h
    simp only [Dm.pk] at e
    cases q : ρ[i]? with
    | none => rw [q] at e; cases e
    | some oc =>
      cases oc with
      | none => rw [q] at e; cases e
      | some c =>
        rw [q] at e
        cases e
        cases hc : c.own with
        | true =>
          obtain ⟨p, o, e1, e2, e3, e4⟩ := S.own i c q hc
          rw [h'] at e1; cases e1
          exact e4.pk e3
        | false =>
          cases c with
          | v d =>
            obtain ⟨y, e1, e2⟩ := S.val i d q
            rw [h'] at e1; cases e1
            exact e2.pk S.sub
          | _ => cases hc
theorem Grow.sta (S : Sta K cl F σ H ρ) (g : Grow F H F' H') : Sta K cl F' σ H' ρ := by
  refine ⟨g.sub, S.len, fun i d h => ?_, fun i c h hc => ?_, S.sep⟩
  · obtain ⟨x, e, r⟩ := S.val i d h
    exact ⟨x, e, r.mono g.mono⟩
  · obtain ⟨p, o, e1, e2, e3, e4⟩ := S.own i c h hc
    exact ⟨p, o, e1, (g.free p o e3 e2).resolve_right (e4.ns hc), g.keep p o e3, e4.mono g.mono⟩
theorem Grow.stp (g : Grow F H F' H') : Stp pn σ ρ F H σ ρ F' H' :=
  ⟨g.mono, fun p o h _ => g.keep p o h, fun p o h _ e => g.free p o h e, fun p h => .inl h, fun _ _ => rfl, fun p o h => ⟨o, g.keep p o h⟩, rfl⟩
theorem Grow.refl (s : Sub F H) : Grow F H F H := ⟨fun _ _ h => h, s, fun _ _ h => h, fun _ _ _ h => .inl h⟩
theorem ResR.rel {z : V} {r : R} (S : Sta K cl F σ H ρ) (h : ResR K cl F H F' H' z r) : RelR K cl σ ρ H σ ρ F' H' z r := by
  cases r with
  | v d => exact h
  | s i => exact h.elim
  | o c =>
    obtain ⟨p, o, e, hc, n, hf, hh, ha⟩ := h
    refine ⟨p, o, e, hc, hf, hh, ha, fun ⟨i, c', q1, q2, q3⟩ => ?_, .inr n⟩
    obtain ⟨p', o', e1, e2, e3, e4⟩ := S.own i c' q1 q2
    rw [q3] at e1; cases e1
    rw [n] at e3; cases e3
/-- a new object beside, a slot's own afterwards -/
theorem Grow.new {p : Addr} {o : HO} (s : Sub F H) (n : H p = none) : Grow F H F (upd H p o) := by
  have fp : F p = none := by
    cases e : F p with
    | none => rfl
    | some u =>
      rcases s p u e with q | ⟨_, ob, q⟩ <;> rw [n] at q <;> cases q
  refine ⟨fun _ _ h => h, fun a u e => ?_, fun a u e => ?_, fun _ _ _ e => .inl e⟩
  · have na : a ≠ p := fun z => by rw [z, fp] at e; cases e
    rw [upd_ne na]
    exact s a u e
  · rw [upd_ne (ne_of_none e n)]
    exact e
theorem sub_none {p : Addr} (s : Sub F H) (n : H p = none) : F p = none := by
  cases e : F p with
  | none => rfl
  | some u =>
    rcases s p u e with q | ⟨_, ob, q⟩ <;> rw [n] at q <;> cases q
/-- a new object beside, frozen at once -/
theorem Grow.newF {p : Addr} {o : HO} (s : Sub F H) (n : H p = none) : Grow F H (upd F p o) (upd H p o) := by
  have fp := sub_none s n
  refine ⟨fun a u e => ?_, fun a u e => ?_, fun a u e => ?_, fun a u e q => ?_⟩
  · rw [upd_ne (ne_of_none e fp)]; exact e
  · by_cases h : a = p
    · subst h
      rw [upd_same] at e; cases e
      exact .inl upd_same
    · rw [upd_ne h] at e
      rw [upd_ne h]
      exact s a u e
  · rw [upd_ne (ne_of_none e n)]; exact e
  · rw [upd_ne (ne_of_none e n)]; exact .inl q
theorem mono_upd {p : Addr} {o : HO} (fp : F p = none) : ∀ a u, F a = some u → upd F p o a = some u := fun a u e => by
  rw [upd_ne (ne_of_none e fp)]; exact e
/-- freezing something new -/
theorem freeze_new {p : Addr} {o : HO} (S : Sta K cl F σ H ρ) (hh : H p = some o) (hf : F p = none) (hn : ¬ OwnS σ ρ p) : Sta K cl (upd F p o) σ H ρ := by
  refine ⟨fun a u e => ?_, S.len, fun i d h => ?_, fun i c h hc => ?_, S.sep⟩
  · by_cases ha : a = p
    · subst ha
      rw [upd_same] at e; cases e
      exact .inl hh
    · rw [upd_ne ha] at e
      exact S.sub a u e
  · obtain ⟨x, e, r⟩ := S.val i d h
    exact ⟨x, e, r.mono (mono_upd hf)⟩
  · obtain ⟨q, u, e1, e2, e3, e4⟩ := S.own i c h hc
    have nq : q ≠ p := fun z => hn ⟨i, c, h, hc, by rw [← z]; exact e1⟩
    exact ⟨q, u, e1, by rw [upd_ne nq]; exact e2, e3, e4.mono (mono_upd hf)⟩
theorem ownS_set {i : Nat} {d : D} {p : Addr} (h : OwnS σ (ρ.set i (some (.v d))) p) : OwnS σ ρ p := by
  obtain ⟨j, c, h1, h2, h3⟩ := h
  by_cases e : i = j
  · subst e
    by_cases hl : i < ρ.length
    · rw [List.getElem?_set_self hl] at h1; cases h1; cases h2
    · rw [List.getElem?_eq_none (by simpa using hl)] at h1; cases h1
  · rw [List.getElem?_set_ne e] at h1
    exact ⟨j, c, h1, h2, h3⟩
/-- freezing what slot i owns -/
theorem freeze_slot {i : Nat} {c : C} {p : Addr} {o : HO} (S : Sta K cl F σ H ρ) (hi : ρ[i]? = some (some c)) (hc : c.own = true) (hp : σ[i]? = some (some (.ref p))) (hf : F p = none) (hh : H p = some o) (ha : OwnAt K cl F o c) :
    Sta K cl (upd F p o) σ H (ρ.set i (some (.v c.toD))) := by
  have hl : i < ρ.length := (List.getElem?_eq_some_iff.mp hi).1
  have rp : Rep K cl (upd F p o) (.ref p) c.toD := OwnAt.rep upd_same (ha.mono (mono_upd hf))
  refine ⟨fun a u e => ?_, by rw [List.length_set]; exact S.len, fun j d h => ?_, fun j c' h hc' => ?_, fun j k cj ck q h1 h2 h3 h4 h5 h6 => ?_⟩
  · by_cases ha : a = p
    · subst ha
      rw [upd_same] at e; cases e
      exact .inl hh
    · rw [upd_ne ha] at e
      exact S.sub a u e
  · by_cases e : i = j
    · subst e
      rw [List.getElem?_set_self hl] at h; cases h
      exact ⟨_, hp, rp⟩
    · rw [List.getElem?_set_ne e] at h
      obtain ⟨x, e1, r⟩ := S.val j d h
      exact ⟨x, e1, r.mono (mono_upd hf)⟩
  · by_cases e : i = j
    · subst e
      rw [List.getElem?_set_self hl] at h; cases h; cases hc'
    · rw [List.getElem?_set_ne e] at h
      obtain ⟨q, u, e1, e2, e3, e4⟩ := S.own j c' h hc'
      have nq : q ≠ p := fun z => e (S.sep i j c c' p hi h hc hc' hp (by rw [← z]; exact e1))
      exact ⟨q, u, e1, by rw [upd_ne nq]; exact e2, e3, e4.mono (mono_upd hf)⟩
  · by_cases e1 : i = j
    · subst e1
      rw [List.getElem?_set_self hl] at h1; cases h1; cases h3
    · by_cases e2 : i = k
      · subst e2
        rw [List.getElem?_set_self hl] at h2; cases h2; cases h4
      · rw [List.getElem?_set_ne e1] at h1
        rw [List.getElem?_set_ne e2] at h2
        exact S.sep j k cj ck q h1 h2 h3 h4 h5 h6
theorem stp_freeze_slot {i : Nat} {c : C} {p : Addr} {o : HO} (hi : ρ[i]? = some (some c)) (hc : c.own = true) (hp : σ[i]? = some (some (.ref p))) (hf : F p = none) :
    Stp pn σ ρ F H σ (ρ.set i (some (.v c.toD))) (upd F p o) H := by
  refine ⟨mono_upd hf, fun _ _ h _ => h, fun q u h n e => ?_, fun q h => .inl (ownS_set h), fun _ _ => rfl, fun q u h => ⟨u, h⟩, rfl⟩
  have nq : q ≠ p := fun z => n ⟨i, c, hi, hc, by rw [z]; exact hp⟩
  rw [upd_ne nq]; exact .inl e
/-- a result taken as a value: frozen if need be. From where the step began -/
theorem toVal_ok {r : R} {F0 H0 : Hp} (S : Sta K cl F σ H ρ) (st : Stp pn σ0 ρ0 F0 H0 σ ρ F H) (s0 : Sub F0 H0) (h : RelR K cl σ0 ρ0 H0 σ ρ F H x r) (e : toVal r ρ = some (d, ρ1)) :
    ∃ F', Sta K cl F' σ H ρ1 ∧ Stp pn σ0 ρ0 F0 H0 σ ρ1 F' H ∧ Rep K cl F' x d := by
  cases r with
  | v d' => cases e; exact ⟨F, S, st, h⟩
  | o c =>
    cases e
    obtain ⟨p, o, rfl, ho, hf, hh, ha, hn, hs⟩ := h
    refine ⟨upd F p o, freeze_new S hh hf hn, ⟨fun a u e => mono_upd hf _ _ (st.mono a u e), st.keep, fun q u h n e => ?_, st.own, st.pin, st.thr, st.len⟩, OwnAt.rep upd_same (ha.mono (mono_upd hf))⟩
    have nq : q ≠ p := fun z => by
      subst z
      rcases hs with z | z
      · exact n z
      · rw [h] at z; cases z
    rw [upd_ne nq]
    exact st.free q u h n e
  | s i =>
    have h' : σ[i]? = some (some x) := h
    simp only [toVal] at e
    cases q : ρ[i]? with
    | none => rw [q] at e; cases e
    | some oc =>
      cases oc with
      | none => rw [q] at e; cases e
      | some c =>
        rw [q] at e
        cases hc : c.own with
        | true =>
          have e' : some (c.toD, ρ.set i (some (.v c.toD))) = some (d, ρ1) := by
            cases c with
            | v d => cases hc
            | _ => exact e
          cases e'
          obtain ⟨p, o, e1, e2, e3, e4⟩ := S.own i c q hc
          rw [h'] at e1; cases e1
          exact ⟨upd F p o, freeze_slot S q hc h' e2 e3 e4, st.trans (stp_freeze_slot q hc h' e2), OwnAt.rep upd_same (e4.mono (mono_upd e2))⟩
        | false =>
          cases c with
          | v d0 =>
            cases e
            obtain ⟨y, e1, e2⟩ := S.val i _ q
            rw [h'] at e1; cases e1
            exact ⟨F, S, st, e2⟩
          | _ => cases hc

theorem PstV.from {Q : VK} {o : Ou D} {F0 H0 : Hp} (st : Stp (fun _ => true) σ0 ρ0 F0 H0 σ ρ F H) (e : σ0 = σ) (h : PstV K cl W Q σ0 ρ0 F0 H0 o) : PstV K cl W Q σ ρ F H o := by
  subst e
  cases o with
  | ok d ρ' => exact fun x F' H' S' s' r => h x F' H' S' (st.trans s') r
  | er x ρ' => exact fun c d F' H' S' s' r => h c d F' H' S' (st.trans s') r
  | st => exact h
theorem PstE.from {Q : VK} {o : Ou R} {F0 H0 : Hp} (st : Stp (fun _ => true) σ ρ0 F0 H0 σ ρ F H) (h : PstE K cl W Q σ ρ0 F0 H0 o) : PstE K cl W Q σ ρ F H o := by
  cases o with
  | ok d ρ' => exact fun x F' H' S' s' r => h x F' H' S' (st.trans s') (r.from st)
  | er x ρ' => exact fun c d F' H' S' s' r => h c d F' H' S' (st.trans s') r
  | st => exact h
theorem EvE.val {te : TE} {ex : En → Ou R} (h : EvE K cl W te ex) : EvV K cl W te (vl ex) := by
  intro F σ H ρ Q S q
  refine h F σ H ρ Q S ?_
  unfold vl at q
  cases e : ex ρ with
  | st => rw [e] at q; exact q
  | er x ρ' => rw [e] at q; exact q
  | ok r ρ' =>
    rw [e, Ou.bn_ok] at q
    intro x F' H' S' s' rel
    cases e2 : toVal r ρ' with
    | none => rw [e2] at q; exact q.elim
    | some p =>
      obtain ⟨d, ρ2⟩ := p
      rw [e2] at q
      obtain ⟨F2, S2, st2, rp⟩ := toVal_ok S' s' S.sub rel e2
      exact q x F2 H' S2 st2 rp
/-- an expression, then what is done with its result -/
theorem EvE.then {te : TE} {ex : En → Ou R} {β : Type} {f : R → En → Ou β} {P : Ou β → Prop} {k : VK} (h : EvE K cl W te ex) (S : Sta K cl F σ H ρ) (hP : P ((ex ρ).bn f))
    (hst : P .st → False) (her : ∀ x ρ', P (.er x ρ') → ∀ c d F' H', Sta K cl F' σ H' ρ' → Stp (fun _ => true) σ ρ F H σ ρ' F' H' → ErrOk K cl F' x c d → W c d σ H')
    (hok : ∀ r ρ', P (f r ρ') → ∀ x F' H', Sta K cl F' σ H' ρ' → Stp (fun _ => true) σ ρ F H σ ρ' F' H' → RelR K cl σ ρ H σ ρ' F' H' x r → k x H') : te σ H k := by
  refine h F σ H ρ k S ?_
  cases e : ex ρ with
  | st => rw [e] at hP; exact hst hP
  | er x ρ' => rw [e] at hP; exact her x ρ' hP
  | ok r ρ' => rw [e] at hP; exact hok r ρ' hP
theorem EvV.then {te : TE} {ex : En → Ou D} {β : Type} {f : D → En → Ou β} {P : Ou β → Prop} {k : VK} (h : EvV K cl W te ex) (S : Sta K cl F σ H ρ) (hP : P ((ex ρ).bn f))
    (hst : P .st → False) (her : ∀ x ρ', P (.er x ρ') → ∀ c d F' H', Sta K cl F' σ H' ρ' → Stp (fun _ => true) σ ρ F H σ ρ' F' H' → ErrOk K cl F' x c d → W c d σ H')
    (hok : ∀ r ρ', P (f r ρ') → ∀ x F' H', Sta K cl F' σ H' ρ' → Stp (fun _ => true) σ ρ F H σ ρ' F' H' → Rep K cl F' x r → k x H') : te σ H k := by
  refine h F σ H ρ k S ?_
  cases e : ex ρ with
  | st => rw [e] at hP; exact hst hP
  | er x ρ' => rw [e] at hP; exact her x ρ' hP
  | ok r ρ' => rw [e] at hP; exact hok r ρ' hP
end

/-! ### operators -/
def lk (f : D → Option R) (r : R) (ρ : En) : Ou R := match pk r ρ with
  | some d => (match f d with
    | some r => .ok r ρ
    | none => .st)
  | none => .st
def lk2 (f : D → D → Option R) (ra rb : R) (ρ : En) : Ou R := match pk ra ρ, pk rb ρ with
  | some a, some b => (match f a b with
    | some r => .ok r ρ
    | none => .st)
  | _, _ => .st
def xUn (f : D → Option R) (ea : En → Ou R) : En → Ou R := fun ρ => (ea ρ).bn (lk f)
def xBin (f : D → D → Option R) (ea eb : En → Ou R) : En → Ou R := fun ρ => (ea ρ).bn fun ra ρ1 => (eb ρ1).bn fun rb ρ2 => lk2 f ra rb ρ2
/-- an operator's reading does what its mirror says -/
def RS2 (K : PySem.W.Frag) (cl : Str → Option Addr) (r : R2) (f : D → D → Option R) : Prop := ∀ F H x y a b out, Sub F H → Pk K cl F H x a → Pk K cl F H y b → f a b = some out →
  ∀ Q : VK, (∀ z F' H', Grow F H F' H' → ResR K cl F H F' H' z out → Q z H') → r x y H Q
def RS1 (K : PySem.W.Frag) (cl : Str → Option Addr) (r : V → Hp → VK → Prop) (f : D → Option R) : Prop := ∀ F H x a out, Sub F H → Pk K cl F H x a → f a = some out →
  ∀ Q : VK, (∀ z F' H', Grow F H F' H' → ResR K cl F H F' H' z out → Q z H') → r x H Q
section
variable {K : PySem.W.Frag} {cl : Str → Option Addr} {W : WX} {ta tb : TE} {ea eb : En → Ou R}
theorem ev_un {r : V → Hp → VK → Prop} {f : D → Option R} (hs : RS1 K cl r f) (ha : EvE K cl W ta ea) : EvE K cl W (fun σ H Q => ta σ H fun x H1 => r x H1 Q) (xUn f ea) := by
  intro F σ H ρ Q S q
  refine ha.then (P := PstE K cl W Q σ ρ F H) S q (fun z => z) (fun _ _ z => z) fun ra ρ1 q x F1 H1 S1 s1 rel => ?_
  unfold lk at q
  cases e1 : pk ra ρ1 with
  | none => rw [e1] at q; exact q.elim
  | some a =>
    rw [e1] at q
    have q' : PstE K cl W Q σ ρ F H (match f a with
      | some r => .ok r ρ1
      | none => .st) := q
    cases e2 : f a with
    | none => rw [e2] at q'; exact q'.elim
    | some out =>
      rw [e2] at q'
      refine hs F1 H1 x a out S1.sub (pk_ok S1 rel e1) e2 _ fun z F2 H2 g rr => ?_
      exact q' z F2 H2 (g.sta S1) (s1.trans g.stp) ((rr.rel S1).from s1)
theorem ev_bin {r : R2} {f : D → D → Option R} (hs : RS2 K cl r f) (ha : EvE K cl W ta ea) (hb : EvE K cl W tb eb) : EvE K cl W (tOp r ta tb) (xBin f ea eb) := by
  intro F σ H ρ Q S q
  refine ha.then (P := PstE K cl W Q σ ρ F H) S q (fun z => z) (fun _ _ z => z) fun ra ρ1 q x F1 H1 S1 s1 rel => ?_
  refine hb.then (P := PstE K cl W Q σ ρ F H) S1 q (fun z => z) (fun _ _ z c d F' H' S' s' er => z c d F' H' S' (s1.trans s') er) fun rb ρ2 q y F2 H2 S2 s2 rel2 => ?_
  have relx := rel.step s2
  unfold lk2 at q
  cases e1 : pk ra ρ2 with
  | none => rw [e1] at q; exact q.elim
  | some a =>
    cases e2 : pk rb ρ2 with
    | none => rw [e1, e2] at q; exact q.elim
    | some b =>
      rw [e1, e2] at q
      have q' : PstE K cl W Q σ ρ F H (match f a b with
        | some r => .ok r ρ2
        | none => .st) := q
      cases e3 : f a b with
      | none => rw [e3] at q'; exact q'.elim
      | some out =>
        rw [e3] at q'
        refine hs F2 H2 x y a b out S2.sub (pk_ok S2 relx e1) (pk_ok S2 rel2 e2) e3 _ fun z F3 H3 g rr => ?_
        exact q' z F3 H3 (g.sta S2) ((s1.trans s2).trans g.stp) ((rr.rel S2).from (s1.trans s2))
end
theorem OpR.or {X : Cx} {f : Value → Value → Sem Value} {r r' : R2} (h : OpR X f r) (h' : OpR X f r') : OpR X f (fun x y H Q => r x y H Q ∨ r' x y H Q) := by
  intro pins s σ H x y v u Q I rx ry q
  rcases q with q | q
  · exact h pins s σ H x y v u Q I rx ry q
  · exact h' pins s σ H x y v u Q I rx ry q
theorem RS2.or {K : PySem.W.Frag} {cl : Str → Option Addr} {r r' : R2} {f : D → D → Option R} (h : ∀ F H x y a b out, Sub F H → Pk K cl F H x a → Pk K cl F H y b → f a b = some out →
    (∀ Q : VK, (∀ z F' H', Grow F H F' H' → ResR K cl F H F' H' z out → Q z H') → r x y H Q) ∨ ∀ Q : VK, (∀ z F' H', Grow F H F' H' → ResR K cl F H F' H' z out → Q z H') → r' x y H Q) : RS2 K cl (fun x y H Q => r x y H Q ∨ r' x y H Q) f :=
  fun F H x y a b out s ha hb e Q q => (h F H x y a b out s ha hb e).elim (fun z => .inl (z Q q)) fun z => .inr (z Q q)

section
variable {cl : Str → Option Addr} {X : Cx} {a b : Expr} {ea eb : En → Ou R} {pos : Pos}
theorem ee_binop {op : Operator} {r : R2} {f : D → D → Option R} (ho : OpR X (binaryOp op) r) (hs : RS2 X.K cl r f) (ha : EE cl X a ea) (hb : EE cl X b eb) : EE cl X (.BinOp a op b pos) (xBin f ea eb) := fun W tk =>
  let ⟨ta, pa, va⟩ := ha W tk
  let ⟨tb, pb, vb⟩ := hb W tk
  ⟨_, pe_op ho pa pb, ev_bin hs va vb⟩
theorem ee_cmpop {op : CmpOp} {r : R2} {f : D → D → Option R} (ho : OpR X (compareOp op) r) (hs : RS2 X.K cl r f) (ha : EE cl X a ea) (hb : EE cl X b eb) (hm : behindInMarks op b = false := by first | exact nomark _ | rfl) : EE cl X (.Compare a [op] [b] pos) (xBin f ea eb) := fun W tk =>
  let ⟨ta, pa, va⟩ := ha W tk
  let ⟨tb, pb, vb⟩ := hb W tk
  ⟨_, pe_cmpR ho pa pb hm, ev_bin hs va vb⟩
theorem ee_unop {op : UnaryOp} {r : V → Hp → VK → Prop} {f : D → Option R} (ho : UnR X (unaryOp op) r) (hs : RS1 X.K cl r f) (ha : EE cl X a ea) : EE cl X (.UnaryOp op a pos) (xUn f ea) := fun W tk =>
  let ⟨ta, pa, va⟩ := ha W tk
  ⟨tUn r ta, pe_un ho pa, ev_un (r := r) hs va⟩

/-! ### names, constants -/
def xVar (i : Nat) : En → Ou R := fun ρ => match ρ[i]? with
  | some (some (.v d)) => .ok (.v d) ρ
  | some (some _) => .ok (.s i) ρ
  | _ => .st
def xC (d : D) : En → Ou R := fun ρ => .ok (.v d) ρ
theorem ev_var {K : PySem.W.Frag} {W : WX} {i : Nat} : EvE K cl W (tVar i) (xVar i) := by
  intro F σ H ρ Q S q
  unfold xVar at q
  cases e : ρ[i]? with
  | none => rw [e] at q; exact q.elim
  | some oc =>
    cases oc with
    | none => rw [e] at q; exact q.elim
    | some c =>
      rw [e] at q
      cases hc : c.own with
      | true =>
        have q' : PstE K cl W Q σ ρ F H (.ok (.s i) ρ) := by
          cases c with
          | v d => cases hc
          | _ => exact q
        obtain ⟨p, o, e1, e2, e3, e4⟩ := S.own i c e hc
        exact ⟨_, e1, q' _ F H S Stp.refl e1⟩
      | false =>
        cases c with
        | v d =>
          obtain ⟨x, e1, r⟩ := S.val i d e
          exact ⟨x, e1, q x F H S Stp.refl r⟩
        | _ => cases hc
theorem ev_c {K : PySem.W.Frag} {W : WX} {v : V} {d : D} (h : ∀ F, Rep K cl F v d) : EvE K cl W (tC v) (xC d) := fun F σ H ρ Q S q => q v F H S Stp.refl (h F)
theorem ee_var (i : Nat) {x : Str} (hN : X.N[i]? = some x := by rfl) (hv : Vis X.env.scope x := by first | exact Or.inl rfl | exact Or.inr (Or.inl rfl) | exact Or.inr (Or.inr rfl)) (hd : (x == ("__debug__" : Str)) = false := by decide)
    (hcd : (x == ("__classdict__" : Str)) = false := by decide) : EE cl X (.Name x pos) (xVar i) := fun W tk => ⟨_, pe_var hN hv hd hcd, ev_var⟩
theorem ee_int {i : Int} {j} : EE cl X (.Constant (.int i) j pos) (xC (.int i)) := fun W tk => ⟨_, pe_int, ev_c fun _ => .int i⟩
theorem ee_bl {i : Bool} {j} : EE cl X (.Constant (.bool i) j pos) (xC (.bl i)) := fun W tk => ⟨_, pe_bl, ev_c fun _ => .bl i⟩
theorem ee_non {j} : EE cl X (.Constant .none j pos) (xC .non) := fun W tk => ⟨_, pe_non, ev_c fun _ => .non⟩
theorem ee_str {i : Str} {j} : EE cl X (.Constant (.str i) j pos) (xC (.str i)) := fun W tk => ⟨_, pe_str, ev_c fun _ => .str i⟩
/-- a constant of the module -/
theorem ee_glob {x : Str} {v : V} {u : Value} {d : D} (hm : X.mg x = some u) (r : RelV v u) (hr : ∀ F, Rep X.K cl F v d) (hg : Gl X x := by rfl) (hd : (x == ("__debug__" : Str)) = false := by decide) : EE cl X (.Name x pos) (xC d) := fun W tk => ⟨_, pe_glob hg hm r hd, ev_c hr⟩
end
end Dm
end TxtDm2

section TxtDm3
set_option Elab.async false
set_option linter.all false
set_option maxRecDepth 100000
/-! Dm3: the operators one by one; tests; displays; and, or, if-else; subscripts, slices, calls of built-ins. -/
namespace Dm
open PySem PySem.Spec PyProof.Rows L2

/-! ### lists of values -/
section
variable {K : PySem.W.Frag} {cl : Str → Option Addr} {F F' H H' : Hp}
theorem RepL.nil : RepL K cl F [] [] := ⟨rfl, fun i v d h => by simp at h⟩
theorem RepL.cons {v : V} {d : D} {vs : List V} {ds : List D} (h : Rep K cl F v d) (r : RepL K cl F vs ds) : RepL K cl F (v :: vs) (d :: ds) := by
  refine ⟨by simp [r.1], fun i x e h1 h2 => ?_⟩
  cases i with
  | zero => simp at h1 h2; subst h1; subst h2; exact h
  | succ i => exact r.2 i x e (by simpa using h1) (by simpa using h2)
theorem RepL.get {vs : List V} {ds : List D} {i : Nat} {d : D} (r : RepL K cl F vs ds) (h : ds[i]? = some d) : ∃ v, vs[i]? = some v ∧ Rep K cl F v d := by
  have hl : i < vs.length := by rw [r.1]; exact (List.getElem?_eq_some_iff.mp h).1
  exact ⟨vs[i], by simp [hl], r.2 i _ d (by simp [hl]) h⟩
theorem RepL.getV {vs : List V} {ds : List D} {i : Nat} {v : V} (r : RepL K cl F vs ds) (h : vs[i]? = some v) : ∃ d, ds[i]? = some d ∧ Rep K cl F v d := by
  have hl : i < ds.length := by rw [← r.1]; exact (List.getElem?_eq_some_iff.mp h).1
  exact ⟨ds[i], by simp [hl], r.2 i v _ h (by simp [hl])⟩
theorem RepL.append {vs vs' : List V} {ds ds' : List D} (r : RepL K cl F vs ds) (r' : RepL K cl F vs' ds') : RepL K cl F (vs ++ vs') (ds ++ ds') := by
  refine ⟨by simp [r.1, r'.1], fun i v d h1 h2 => ?_⟩
  by_cases hi : i < vs.length
  · rw [List.getElem?_append_left hi] at h1
    rw [List.getElem?_append_left (by rw [← r.1]; exact hi)] at h2
    exact r.2 i v d h1 h2
  · rw [List.getElem?_append_right (by omega)] at h1
    rw [List.getElem?_append_right (by rw [← r.1]; omega)] at h2
    rw [← r.1] at h2
    exact r'.2 _ v d h1 h2
theorem RepL.one {v : V} {d : D} (h : Rep K cl F v d) : RepL K cl F [v] [d] := RepL.cons h RepL.nil
theorem RepL.take {vs : List V} {ds : List D} (n : Nat) (r : RepL K cl F vs ds) : RepL K cl F (vs.take n) (ds.take n) := by
  refine ⟨by simp [r.1], fun i v d h1 h2 => ?_⟩
  rw [List.getElem?_take] at h1 h2
  split at h1
  · rename_i hi
    rw [if_pos hi] at h2
    exact r.2 i v d h1 h2
  · cases h1
theorem RepL.drop {vs : List V} {ds : List D} (n : Nat) (r : RepL K cl F vs ds) : RepL K cl F (vs.drop n) (ds.drop n) := by
  refine ⟨by simp [r.1], fun i v d h1 h2 => ?_⟩
  rw [List.getElem?_drop] at h1 h2
  exact r.2 _ v d h1 h2
theorem RepL.set {vs : List V} {ds : List D} {v : V} {d : D} (i : Nat) (r : RepL K cl F vs ds) (h : Rep K cl F v d) : RepL K cl F (vs.set i v) (ds.set i d) := by
  refine ⟨by simp [r.1], fun j x e h1 h2 => ?_⟩
  by_cases hj : i = j
  · subst hj
    have hl : i < vs.length := by
      have := (List.getElem?_eq_some_iff.mp h1).1
      simpa using this
    rw [List.getElem?_set_self hl] at h1
    rw [List.getElem?_set_self (by rw [← r.1]; exact hl)] at h2
    cases h1; cases h2; exact h
  · rw [List.getElem?_set_ne hj] at h1 h2
    exact r.2 j x e h1 h2
theorem RepL.ind {P : List V → List D → Prop} {vs : List V} {ds : List D} (r : RepL K cl F vs ds) (h0 : P [] []) (h1 : ∀ v d vs ds, Rep K cl F v d → RepL K cl F vs ds → P vs ds → P (v :: vs) (d :: ds)) : P vs ds := by
  induction vs generalizing ds with
  | nil =>
    cases ds with
    | nil => exact h0
    | cons d ds => have := r.1; simp at this
  | cons v vs ih =>
    cases ds with
    | nil => have := r.1; simp at this
    | cons d ds =>
      have r' : RepL K cl F vs ds := ⟨by have := r.1; simpa using this, fun i x e a b => r.2 (i + 1) x e (by simpa using a) (by simpa using b)⟩
      exact h1 v d vs ds (r.2 0 v d rfl rfl) r' (ih r')
theorem RepL.flat {vs : List V} {ds : List D} (r : RepL K cl F vs ds) : ∀ n : Nat, RepL K cl F (List.replicate n vs).flatten (List.replicate n ds).flatten
  | 0 => RepL.nil
  | n + 1 => by
    rw [List.replicate_succ, List.replicate_succ, List.flatten_cons, List.flatten_cons]
    exact r.append (r.flat n)
/-- ints -/
theorem RepL.ints {vs : List V} {ns : List Int} (r : RepL K cl F vs (ns.map D.int)) : vs = ns.map V.int := by
  induction vs generalizing ns with
  | nil =>
    cases ns with
    | nil => rfl
    | cons => have := r.1; simp at this
  | cons v vs ih =>
    cases ns with
    | nil => have := r.1; simp at this
    | cons n ns =>
      have r' : RepL K cl F vs (ns.map D.int) := ⟨by have := r.1; simpa using this, fun i x e a b => r.2 (i + 1) x e (by simpa using a) (by simpa using b)⟩
      have h0 := r.2 0 v (.int n) rfl rfl
      cases h0
      rw [ih r']; rfl
theorem RepL.strs {vs : List V} {ns : List Str} (r : RepL K cl F vs (ns.map D.str)) : vs = ns.map V.str := by
  induction vs generalizing ns with
  | nil =>
    cases ns with
    | nil => rfl
    | cons => have := r.1; simp at this
  | cons v vs ih =>
    cases ns with
    | nil => have := r.1; simp at this
    | cons n ns =>
      have r' : RepL K cl F vs (ns.map D.str) := ⟨by have := r.1; simpa using this, fun i x e a b => r.2 (i + 1) x e (by simpa using a) (by simpa using b)⟩
      have h0 := r.2 0 v (.str n) rfl rfl
      cases h0
      rw [ih r']; rfl
theorem RepL.bls {vs : List V} {ns : List Bool} (r : RepL K cl F vs (ns.map D.bl)) : vs = ns.map V.bl := by
  induction vs generalizing ns with
  | nil =>
    cases ns with
    | nil => rfl
    | cons => have := r.1; simp at this
  | cons v vs ih =>
    cases ns with
    | nil => have := r.1; simp at this
    | cons n ns =>
      have r' : RepL K cl F vs (ns.map D.bl) := ⟨by have := r.1; simpa using this, fun i x e a b => r.2 (i + 1) x e (by simpa using a) (by simpa using b)⟩
      have h0 := r.2 0 v (.bl n) rfl rfl
      cases h0
      rw [ih r']; rfl
theorem atI_rep {vs : List V} {ds : List D} {i : Int} {d : D} (r : RepL K cl F vs ds) (h : atI ds i = some d) : ∃ v, atI vs i = some v ∧ Rep K cl F v d := by
  unfold atI at h ⊢
  rw [r.1]
  cases e : ixN ds.length i with
  | none => rw [e] at h; cases h
  | some j =>
    rw [e] at h
    exact r.get h
/-- new objects as results -/
theorem resL {p : Addr} {vs : List V} {ds : List D} (s : Sub F H) (n : H p = none) (r : RepL K cl F vs ds) : Grow F H F (upd H p (.lst vs)) ∧ ResR K cl F H F (upd H p (.lst vs)) (.ref p) (.o (.L ds)) :=
  ⟨Grow.new s n, p, .lst vs, rfl, rfl, n, sub_none s n, upd_same, vs, rfl, r⟩
theorem resT {p : Addr} {vs : List V} {ds : List D} (s : Sub F H) (n : H p = none) (r : RepL K cl F vs ds) : Grow F H (upd F p (.tup vs)) (upd H p (.tup vs)) ∧ ResR K cl F H (upd F p (.tup vs)) (upd H p (.tup vs)) (.ref p) (.v (.tup ds)) :=
  ⟨Grow.newF s n, Rep.tup (.inl (.inl upd_same)) (.inr upd_same) r.1 (r.mono (mono_upd (sub_none s n))).2⟩
end

/-! ### arithmetic -/
def opII (f : Int → Int → Int) : D → D → Option R
  | .int i, .int j => some (.v (.int (f i j)))
  | _, _ => none
def opIIc (c : Int → Int → Bool) (f : Int → Int → Int) : D → D → Option R
  | .int i, .int j => if c i j then some (.v (.int (f i j))) else none
  | _, _ => none
def opIB (f : Int → Int → Bool) : D → D → Option R
  | .int i, .int j => some (.v (.bl (f i j)))
  | _, _ => none
section
variable {K : PySem.W.Frag} {cl : Str → Option Addr}
theorem rs_II {f : Int → Int → Int} : RS2 K cl (rI0 fun i j => .int (f i j)) (opII f) := by
  intro F H x y a b out s ha hb e Q q
  cases a with
  | int i => cases b with
    | int j =>
      cases ha; cases hb; cases e
      exact ⟨i, j, rfl, rfl, q _ F H (Grow.refl s) (.int _)⟩
    | _ => cases e
  | _ => cases e
theorem rs_IIc {C : Int → Int → Prop} {c : Int → Int → Bool} {f : Int → Int → Int} (hc : ∀ i j, c i j = true → C i j) : RS2 K cl (rI C fun i j => .int (f i j)) (opIIc c f) := by
  intro F H x y a b out s ha hb e Q q
  cases a with
  | int i => cases b with
    | int j =>
      cases ha; cases hb
      simp only [opIIc] at e
      split at e
      · rename_i h
        cases e
        exact ⟨i, j, rfl, rfl, hc i j h, q _ F H (Grow.refl s) (.int _)⟩
      · cases e
    | _ => cases e
  | _ => cases e
theorem rs_IB {f : Int → Int → Bool} : RS2 K cl (rI0 fun i j => .bl (f i j)) (opIB f) := by
  intro F H x y a b out s ha hb e Q q
  cases a with
  | int i => cases b with
    | int j =>
      cases ha; cases hb; cases e
      exact ⟨i, j, rfl, rfl, q _ F H (Grow.refl s) (.bl _)⟩
    | _ => cases e
  | _ => cases e
end
def addD : D → D → Option R
  | .int i, .int j => some (.v (.int (i + j)))
  | .int i, .bl k => some (.v (.int (i + b2i k)))
  | .str x, .str y => if x.length + y.length ≤ sizeLine then some (.v (.str (x ++ y))) else none
  | .lst a, .lst b => if a.length + b.length ≤ sizeLine then some (.o (.L (a ++ b))) else none
  | .tup a, .tup b => if a.length + b.length ≤ sizeLine then some (.v (.tup (a ++ b))) else none
  | _, _ => none
def rAddA (K : PySem.W.Frag) : R2 := fun x y H Q => (∃ i j, x = .int i ∧ y = .int j ∧ Q (.int (i + j)) H) ∨ (∃ i k, x = .int i ∧ y = .bl k ∧ Q (.int (i + b2i k)) H) ∨
  (∃ i j, x = .str i ∧ y = .str j ∧ i.length + j.length ≤ sizeLine ∧ Q (.str (i ++ j)) H) ∨ rCat x y H Q ∨ rCatA K x y H Q
theorem op_addA {X : Cx} : OpR X (binaryOp .Add) (rAddA X.K) := op_add.or (op_add_ib.or (op_add_str.or (op_cat.or op_catA)))
theorem rs_addA {K : PySem.W.Frag} {cl : Str → Option Addr} : RS2 K cl (rAddA K) addD := by
  intro F H x y a b out s ha hb e Q q
  cases a with
  | int i =>
    cases b with
    | int j => cases ha; cases hb; cases e; exact .inl ⟨i, j, rfl, rfl, q _ F H (Grow.refl s) (.int _)⟩
    | bl j => cases ha; cases hb; cases e; exact .inr (.inl ⟨i, j, rfl, rfl, q _ F H (Grow.refl s) (.int _)⟩)
    | _ => cases e
  | str i =>
    cases b with
    | str j =>
      cases ha; cases hb
      simp only [addD] at e
      split at e
      · rename_i h
        cases e
        exact .inr (.inr (.inl ⟨i, j, rfl, rfl, h, q _ F H (Grow.refl s) (.str _)⟩))
      · cases e
    | _ => cases e
  | lst as =>
    cases b with
    | lst bs =>
      obtain ⟨p, vs, rfl, hp, r⟩ := ha
      obtain ⟨p', vs', rfl, hp', r'⟩ := hb
      simp only [addD] at e
      split at e
      · rename_i h
        cases e
        refine .inr (.inr (.inr (.inl ⟨p, p', vs, vs', rfl, rfl, hp, hp', by rw [r.1, r'.1]; exact h, fun a n => ?_⟩)))
        obtain ⟨g, rr⟩ := resL (cl := cl) s n (r.append r')
        exact q _ _ _ g rr
      · cases e
    | _ => cases e
  | tup as =>
    cases b with
    | tup bs =>
      obtain ⟨ra, p, vs, rfl, hp, _, r⟩ := ha
      obtain ⟨rb, p', vs', rfl, hp', _, r'⟩ := hb
      simp only [addD] at e
      split at e
      · rename_i h
        cases e
        refine .inr (.inr (.inr (.inr ⟨p, p', vs, vs', rfl, rfl, hp, hp', by rw [r.1, r'.1]; exact h, fun e0 => ?_, fun _ e0 => ?_, fun _ _ a n => ?_⟩)))
        · have : as = [] := List.eq_nil_of_length_eq_zero (by rw [← r.1, e0]; rfl)
          subst this
          exact q _ F H (Grow.refl s) rb
        · have : bs = [] := List.eq_nil_of_length_eq_zero (by rw [← r'.1, e0]; rfl)
          subst this
          rw [List.append_nil] at q
          exact q _ F H (Grow.refl s) ra
        · obtain ⟨g, rr⟩ := resT (cl := cl) s n (r.append r')
          exact q _ _ _ g rr
      · cases e
    | _ => cases e
  | _ => cases e
def subD := opII fun i j => i - j
/-- from -n-1 to n; from 1 to n; from 0 to n. (So written that no reckoning with an unknown number runs away) -/
def okW (n : Nat) : Int → Bool
  | .ofNat m => Nat.ble m n
  | .negSucc m => Nat.ble m n
def okP (n : Nat) : Int → Bool
  | .ofNat m => Nat.ble 1 m && Nat.ble m n
  | .negSucc _ => false
def okN (n : Nat) : Int → Bool
  | .ofNat m => Nat.ble m n
  | .negSucc _ => false
theorem okW_iff {n : Nat} {i : Int} : okW n i = true ↔ -(n : Int) - 1 ≤ i ∧ i ≤ n := by
  cases i with
  | ofNat m => unfold okW; rw [Nat.ble_eq]; simp only [Int.ofNat_eq_natCast]; omega
  | negSucc m => unfold okW; rw [Nat.ble_eq]; simp only [Int.negSucc_eq]; omega
theorem okP_iff {n : Nat} {i : Int} : okP n i = true ↔ 1 ≤ i ∧ i ≤ n := by
  cases i with
  | ofNat m => unfold okP; rw [Bool.and_eq_true, Nat.ble_eq, Nat.ble_eq]; simp only [Int.ofNat_eq_natCast]; omega
  | negSucc m => unfold okP; simp only [Int.negSucc_eq]; exact ⟨fun h => Bool.noConfusion h, fun h => by omega⟩
theorem okN_iff {n : Nat} {i : Int} : okN n i = true ↔ 0 ≤ i ∧ i ≤ n := by
  cases i with
  | ofNat m => unfold okN; rw [Nat.ble_eq]; simp only [Int.ofNat_eq_natCast]; omega
  | negSucc m => unfold okN; simp only [Int.negSucc_eq]; exact ⟨fun h => Bool.noConfusion h, fun h => by omega⟩
def cMul (i j : Int) : Bool := okW 18446744073709551614 i || okW 18446744073709551614 j
def mulD : D → D → Option R
  | .int i, .int j => if cMul i j = true then some (.v (.int (i * j))) else none
  | .lst a, .int k => if okW 9223372036854775806 k = true ∧ a.length * k.toNat ≤ sizeLine then some (.o (.L (List.replicate k.toNat a).flatten)) else none
  | .tup a, .int k => if a ≠ [] ∧ 2 ≤ k ∧ k ≤ 1000 ∧ a.length ≤ 1000 then some (.v (.tup (List.replicate k.toNat a).flatten)) else none
  | _, _ => none
def rMulA (K : PySem.W.Frag) : R2 := fun x y H Q => rI CMul (fun i j => .int (i * j)) x y H Q ∨ rRep x y H Q ∨ rRepT K x y H Q
theorem op_mulA {X : Cx} : OpR X (binaryOp .Mult) (rMulA X.K) := op_mul.or (op_rep.or op_repT)
theorem cMul_ok {i j : Int} (h : cMul i j = true) : CMul i j := by
  unfold cMul at h
  rw [Bool.or_eq_true, okW_iff, okW_iff] at h
  rcases h with h | h
  · exact .inl ⟨by omega, by omega⟩
  · exact .inr ⟨by omega, by omega⟩
theorem rs_mulA {K : PySem.W.Frag} {cl : Str → Option Addr} : RS2 K cl (rMulA K) mulD := by
  intro F H x y a b out s ha hb e Q q
  cases a with
  | int i =>
    cases b with
    | int j =>
      cases ha; cases hb
      simp only [mulD] at e
      split at e
      · rename_i h
        cases e
        exact .inl ⟨i, j, rfl, rfl, cMul_ok h, q _ F H (Grow.refl s) (.int _)⟩
      · cases e
    | _ => cases e
  | lst as =>
    cases b with
    | int k =>
      obtain ⟨p, vs, rfl, hp, r⟩ := ha
      cases hb
      simp only [mulD] at e
      split at e
      · rename_i h
        cases e
        have hk := okW_iff.mp h.1
        refine .inr (.inl ⟨p, k, vs, rfl, rfl, hp, by omega, by omega, by rw [r.1]; exact h.2, fun a n => ?_⟩)
        obtain ⟨g, rr⟩ := resL (cl := cl) s n (r.flat k.toNat)
        exact q _ _ _ g rr
      · cases e
    | _ => cases e
  | tup as =>
    cases b with
    | int k =>
      obtain ⟨ra, p, vs, rfl, hp, _, r⟩ := ha
      cases hb
      simp only [mulD] at e
      split at e
      · rename_i h
        cases e
        refine .inr (.inr ⟨p, k, vs, rfl, rfl, hp, fun z => h.1 (List.eq_nil_of_length_eq_zero (by rw [← r.1, z]; rfl)), h.2.1, h.2.2.1, by rw [r.1]; exact h.2.2.2, fun a n => ?_⟩)
        obtain ⟨g, rr⟩ := resT (cl := cl) s n (r.flat k.toNat)
        exact q _ _ _ g rr
      · cases e
    | _ => cases e
  | _ => cases e
def fdivD := opIIc (fun _ j => okP 1073741823 j) fun i j => i / j
def modD := opIIc (fun _ j => decide (0 < j)) fun i j => i % j
def powD := opIIc (fun i j => okN 1000000 j && Nat.ble i.natAbs 18446744073709551615) fun i j => i ^ j.toNat
def shlD := opIIc (fun i j => okN 1000000 j && Nat.ble i.natAbs 18446744073709551615) fun i j => i * 2 ^ j.toNat
def shrD := opIIc (fun _ j => decide (0 ≤ j)) fun i j => i / 2 ^ j.toNat
def negD : D → Option R
  | .int i => some (.v (.int (-i)))
  | _ => none
section
variable {cl : Str → Option Addr} {X : Cx} {a b : Expr} {ea eb : En → Ou R} {pos : Pos}
theorem ee_add (ha : EE cl X a ea) (hb : EE cl X b eb) : EE cl X (.BinOp a .Add b pos) (xBin addD ea eb) := ee_binop op_addA rs_addA ha hb
theorem ee_sub (ha : EE cl X a ea) (hb : EE cl X b eb) : EE cl X (.BinOp a .Sub b pos) (xBin subD ea eb) := ee_binop op_sub rs_II ha hb
theorem ee_mul (ha : EE cl X a ea) (hb : EE cl X b eb) : EE cl X (.BinOp a .Mult b pos) (xBin mulD ea eb) := ee_binop op_mulA rs_mulA ha hb
theorem ee_fdiv (ha : EE cl X a ea) (hb : EE cl X b eb) : EE cl X (.BinOp a .FloorDiv b pos) (xBin fdivD ea eb) := ee_binop op_fdiv (rs_IIc fun i j h => by have := okP_iff.mp h; exact ⟨by omega, by omega⟩) ha hb
theorem ee_mod (ha : EE cl X a ea) (hb : EE cl X b eb) : EE cl X (.BinOp a .Mod b pos) (xBin modD ea eb) := ee_binop op_mod (rs_IIc fun i j h => by simpa using h) ha hb
theorem ee_pow (ha : EE cl X a ea) (hb : EE cl X b eb) : EE cl X (.BinOp a .Pow b pos) (xBin powD ea eb) := ee_binop op_pow (rs_IIc fun i j h => by rw [Bool.and_eq_true, Nat.ble_eq] at h; have := okN_iff.mp h.1; have h2 := h.2; exact ⟨by omega, by omega, by omega⟩) ha hb
theorem ee_shl (ha : EE cl X a ea) (hb : EE cl X b eb) : EE cl X (.BinOp a .LShift b pos) (xBin shlD ea eb) := ee_binop op_shl (rs_IIc fun i j h => by rw [Bool.and_eq_true, Nat.ble_eq] at h; have := okN_iff.mp h.1; have h2 := h.2; exact ⟨by omega, by omega, by omega⟩) ha hb
theorem ee_shr (ha : EE cl X a ea) (hb : EE cl X b eb) : EE cl X (.BinOp a .RShift b pos) (xBin shrD ea eb) := ee_binop op_shr (rs_IIc fun i j h => by simpa using h) ha hb
theorem ee_neg (ha : EE cl X a ea) : EE cl X (.UnaryOp .USub a pos) (xUn negD ea) := ee_unop (r := rU fun i => .int (-i)) un_neg (fun F H x a out s ha e Q q => by
  cases a with
  | int i => cases ha; cases e; exact ⟨i, rfl, q _ F H (Grow.refl s) (.int _)⟩
  | _ => cases e) ha

/-! ### comparisons -/
def ltD : D → D → Option R
  | .int i, .int j => some (.v (.bl (decide (i < j))))
  | .str i, .str j => some (.v (.bl (decide (i.cps.toList < j.cps.toList))))
  | _, _ => none
def leD : D → D → Option R
  | .int i, .int j => some (.v (.bl (decide (i ≤ j))))
  | .str i, .str j => some (.v (.bl (!decide (j.cps.toList < i.cps.toList))))
  | _, _ => none
def gtD := opIB fun i j => decide (j < i)
def geD := opIB fun i j => decide (j ≤ i)
def rLtA : R2 := fun x y H Q => (∃ i j, x = .int i ∧ y = .int j ∧ Q (.bl (decide (i < j))) H) ∨ ∃ i j, x = .str i ∧ y = .str j ∧ Q (.bl (decide (i.cps.toList < j.cps.toList))) H
def rLeA : R2 := fun x y H Q => (∃ i j, x = .int i ∧ y = .int j ∧ Q (.bl (decide (i ≤ j))) H) ∨ ∃ i j, x = .str i ∧ y = .str j ∧ Q (.bl (!decide (j.cps.toList < i.cps.toList))) H
theorem op_ltA : OpR X (compareOp .Lt) rLtA := op_lt.or op_lt_str
theorem op_leA : OpR X (compareOp .LtE) rLeA := op_le.or op_le_str
theorem rs_ltA {K : PySem.W.Frag} : RS2 K cl rLtA ltD := by
  intro F H x y a b out s ha hb e Q q
  cases a with
  | int i =>
    cases b with
    | int j => cases ha; cases hb; cases e; exact .inl ⟨i, j, rfl, rfl, q _ F H (Grow.refl s) (.bl _)⟩
    | _ => cases e
  | str i =>
    cases b with
    | str j => cases ha; cases hb; cases e; exact .inr ⟨i, j, rfl, rfl, q _ F H (Grow.refl s) (.bl _)⟩
    | _ => cases e
  | _ => cases e
theorem rs_leA {K : PySem.W.Frag} : RS2 K cl rLeA leD := by
  intro F H x y a b out s ha hb e Q q
  cases a with
  | int i =>
    cases b with
    | int j => cases ha; cases hb; cases e; exact .inl ⟨i, j, rfl, rfl, q _ F H (Grow.refl s) (.bl _)⟩
    | _ => cases e
  | str i =>
    cases b with
    | str j => cases ha; cases hb; cases e; exact .inr ⟨i, j, rfl, rfl, q _ F H (Grow.refl s) (.bl _)⟩
    | _ => cases e
  | _ => cases e
theorem ee_lt (ha : EE cl X a ea) (hb : EE cl X b eb) : EE cl X (.Compare a [.Lt] [b] pos) (xBin ltD ea eb) := ee_cmpop op_ltA rs_ltA ha hb
theorem ee_le (ha : EE cl X a ea) (hb : EE cl X b eb) : EE cl X (.Compare a [.LtE] [b] pos) (xBin leD ea eb) := ee_cmpop op_leA rs_leA ha hb
theorem ee_gt (ha : EE cl X a ea) (hb : EE cl X b eb) : EE cl X (.Compare a [.Gt] [b] pos) (xBin gtD ea eb) := ee_cmpop op_gt rs_IB ha hb
theorem ee_ge (ha : EE cl X a ea) (hb : EE cl X b eb) : EE cl X (.Compare a [.GtE] [b] pos) (xBin geD ea eb) := ee_cmpop op_ge rs_IB ha hb
end
/-! as plain data of the library -/
mutual
def D.py : D → Option PyData
  | .non => some .none
  | .bl b => some (.bool b)
  | .int i => some (.int i)
  | .str x => some (.str x)
  | .lst ds => (D.pys ds).map .list
  | .tup ds => (D.pys ds).map .tuple
  | .scr ns => some (.list (ns.map .int))
  | _ => none
def D.pys : List D → Option (List PyData)
  | [] => some []
  | d :: ds => match d.py, D.pys ds with
    | some p, some ps => some (p :: ps)
    | _, _ => none
end
section
variable {K : PySem.W.Frag} {cl : Str → Option Addr} {F H : Hp}
theorem dpAll_ints : ∀ ns : List Int, DpAll K H (ns.map V.int) (ns.map PyData.int)
  | [] => .nil
  | n :: ns => .cons (.int n) (dpAll_ints ns)
theorem dpAll_of {vs : List V} : ∀ {ds : List D} {ps : List PyData}, vs.length = ds.length → (∀ (i : Nat) v d p, vs[i]? = some v → ds[i]? = some d → d.py = some p → Dp K H v p) → D.pys ds = some ps → DpAll K H vs ps := by
  induction vs with
  | nil =>
    intro ds ps l h e
    cases ds with
    | nil => cases e; exact .nil
    | cons => simp at l
  | cons v vs ih =>
    intro ds ps l h e
    cases ds with
    | nil => simp at l
    | cons d ds =>
      unfold D.pys at e
      cases e1 : d.py with
      | none => rw [e1] at e; cases e
      | some p =>
        cases e2 : D.pys ds with
        | none => rw [e1, e2] at e; cases e
        | some qs =>
          rw [e1, e2] at e; cases e
          exact .cons (h 0 v d p rfl rfl e1) (ih (by simpa using l) (fun i v' d' p' a b c => h (i + 1) v' d' p' (by simpa using a) (by simpa using b) c) e2)
theorem Rep.dp {x : V} {d : D} (s : Sub F H) (h : Rep K cl F x d) : ∀ {p}, d.py = some p → Dp K H x p := by
  induction h with
  | non => intro p e; cases e; exact .non
  | bl b => intro p e; cases e; exact .bl b
  | int b => intro p e; cases e; exact .int b
  | str b => intro p e; cases e; exact .str b
  | tup h e l r ih =>
    intro p e
    unfold D.py at e
    obtain ⟨ps, e1, rfl⟩ := Option.map_eq_some_iff.mp e
    exact .tup (sqT_sub s h) (dpAll_of l (fun i v d p a b c => ih i v d a b c) e1)
  | lst h l r ih =>
    intro p e
    unfold D.py at e
    obtain ⟨ps, e1, rfl⟩ := Option.map_eq_some_iff.mp e
    exact .lst (.inl (.inl (sub_not s (fun z => z) h))) (dpAll_of l (fun i v d p a b c => ih i v d a b c) e1)
  | scr h => intro p e; cases e; exact .lst (sqL_sub s h) (dpAll_ints _)
  | _ => intro p e; cases e
theorem Pk.dp {x : V} {d : D} {p : PyData} (s : Sub F H) (h : Pk K cl F H x d) (e : d.py = some p) : Dp K H x p := by
  cases d with
  | non => cases h; cases e; exact .non
  | bl b => cases h; cases e; exact .bl b
  | int b => cases h; cases e; exact .int b
  | str b => cases h; cases e; exact .str b
  | tup ds => exact h.1.dp s e
  | lst ds =>
    obtain ⟨a, vs, rfl, ha, r⟩ := h
    unfold D.py at e
    obtain ⟨ps, e1, rfl⟩ := Option.map_eq_some_iff.mp e
    exact .lst (.inl (.inl ha)) (dpAll_of r.1 (fun i v d p a b c => (r.2 i v d a b).dp s c) e1)
  | scr ns =>
    obtain ⟨a, rfl, ha⟩ := h
    cases e; exact .lst ha (dpAll_ints _)
  | _ => cases e
end
def eqD (neg : Bool) (a b : D) : Option R := match a.py, b.py with
  | some p, some q => if SeqAt.shaped p && SeqAt.shaped q then some (.v (.bl (if neg then !PyData.eqv p q else PyData.eqv p q))) else none
  | _, _ => none
theorem rs_eqD {K : PySem.W.Frag} {cl : Str → Option Addr} : RS2 K cl (rEqD K) (eqD false) := by
  intro F H x y a b out s ha hb e Q q
  unfold eqD at e
  cases e1 : a.py with
  | none => rw [e1] at e; cases e
  | some p =>
    cases e2 : b.py with
    | none => rw [e1, e2] at e; cases e
    | some p' =>
      rw [e1, e2] at e
      simp only at e
      split at e
      · rename_i h
        rw [Bool.and_eq_true] at h
        cases e
        exact ⟨p, p', ha.dp s e1, hb.dp s e2, h.1, h.2, q _ F H (Grow.refl s) (.bl _)⟩
      · cases e
theorem rs_neD {K : PySem.W.Frag} {cl : Str → Option Addr} : RS2 K cl (rNeD K) (eqD true) := by
  intro F H x y a b out s ha hb e Q q
  unfold eqD at e
  cases e1 : a.py with
  | none => rw [e1] at e; cases e
  | some p =>
    cases e2 : b.py with
    | none => rw [e1, e2] at e; cases e
    | some p' =>
      rw [e1, e2] at e
      simp only at e
      split at e
      · rename_i h
        rw [Bool.and_eq_true] at h
        cases e
        exact ⟨p, p', ha.dp s e1, hb.dp s e2, h.1, h.2, q _ F H (Grow.refl s) (.bl _)⟩
      · cases e
section
variable {cl : Str → Option Addr} {X : Cx} {a b : Expr} {ea eb : En → Ou R} {pos : Pos} {k : Nat}
theorem ee_eq (hr : Room k X.A) (ha : EE cl X a ea) (hb : EE cl X b eb) : EE cl X (.Compare a [.Eq] [b] pos) (xBin (eqD false) ea eb) := ee_cmpop (op_eqD hr.units) rs_eqD ha hb
theorem ee_ne (hr : Room k X.A) (ha : EE cl X a ea) (hb : EE cl X b eb) : EE cl X (.Compare a [.NotEq] [b] pos) (xBin (eqD true) ea eb) := ee_cmpop (op_neD hr.units) rs_neD ha hb
/-- is None, is not None -/
def isND (neg : Bool) : D → D → Option R
  | .non, .non => some (.v (.bl (!neg)))
  | .bl _, .non => some (.v (.bl neg))
  | .int _, .non => some (.v (.bl neg))
  | .str _, .non => some (.v (.bl neg))
  | .tup _, .non => some (.v (.bl neg))
  | .lst _, .non => some (.v (.bl neg))
  | .ins _ _, .non => some (.v (.bl neg))
  | .dK _, .non => some (.v (.bl neg))
  | .dT _, .non => some (.v (.bl neg))
  | _, _ => none
theorem rs_isN {K : PySem.W.Frag} (neg : Bool) {r : R2} (hr : ∀ x H Q, Q (.bl (if neg then !decide (x = .non) else decide (x = .non))) H → r x .non H Q) : RS2 K cl r (isND neg) := by
  intro F H x y a b out s ha hb e Q q
  have key : ∀ {bb : Bool}, (∀ z F' H', Grow F H F' H' → ResR K cl F H F' H' z (.v (.bl bb)) → Q z H') → y = .non → (if neg then !decide (x = V.non) else decide (x = V.non)) = bb → r x y H Q := by
    intro bb q hy he
    subst hy
    exact hr x H Q (by rw [he]; exact q _ F H (Grow.refl s) (.bl _))
  cases b with
  | non =>
    cases a with
    | non => cases e; exact key q hb (by rw [show x = .non from ha]; cases neg <;> rfl)
    | bl _ => cases e; exact key q hb (by rw [show x = .bl _ from ha]; cases neg <;> rfl)
    | int _ => cases e; exact key q hb (by rw [show x = .int _ from ha]; cases neg <;> rfl)
    | str _ => cases e; exact key q hb (by rw [show x = .str _ from ha]; cases neg <;> rfl)
    | tup _ => cases e; obtain ⟨_, a, vs, rfl, _⟩ := ha; exact key q hb (by cases neg <;> rfl)
    | lst _ => cases e; obtain ⟨a, vs, rfl, _⟩ := ha; exact key q hb (by cases neg <;> rfl)
    | dK _ => cases e; obtain ⟨a, vs, rfl, _⟩ := ha; exact key q hb (by cases neg <;> rfl)
    | dT _ => cases e; obtain ⟨a, vs, rfl, _⟩ := ha; exact key q hb (by cases neg <;> rfl)
    | ins _ _ => cases e; obtain ⟨a, vs, _, _, rfl, _⟩ := ha; exact key q hb (by cases neg <;> rfl)
    | _ => cases e
  | _ => cases a <;> cases e
theorem ee_isN (ha : EE cl X a ea) (hb : EE cl X b eb) : EE cl X (.Compare a [.Is] [b] pos) (xBin (isND false) ea eb) := ee_cmpop op_isN (rs_isN false fun x H Q q => ⟨rfl, q⟩) ha hb
theorem ee_notN (ha : EE cl X a ea) (hb : EE cl X b eb) : EE cl X (.Compare a [.IsNot] [b] pos) (xBin (isND true) ea eb) := ee_cmpop op_notN (rs_isN true fun x H Q q => ⟨rfl, q⟩) ha hb
end
end Dm
end TxtDm3

section TxtDm4
set_option Elab.async false
set_option linter.all false
set_option maxRecDepth 100000
/-! Dm4: tests; and, or, not; displays; subscripts, in, dicts; slices. -/
namespace Dm
open PySem PySem.Spec PyProof.Rows L2

/-! ### tests -/
section
variable (K : PySem.W.Frag) (cl : Str → Option Addr)
def PstT (W : WX) (Q : Bool → Hp → Prop) (σ : L2.St) (ρ : En) (F H : Hp) : Ou Bool → Prop
  | .ok b ρ' => ∀ F' H', Sta K cl F' σ H' ρ' → Stp (fun _ => true) σ ρ F H σ ρ' F' H' → Q b H'
  | .er e ρ' => ∀ c d F' H', Sta K cl F' σ H' ρ' → Stp (fun _ => true) σ ρ F H σ ρ' F' H' → ErrOk K cl F' e c d → W c d σ H'
  | .st => False
def EvT (W : WX) (tt : TT) (ex : En → Ou Bool) : Prop := ∀ F σ H ρ Q, Sta K cl F σ H ρ → PstT K cl W Q σ ρ F H (ex ρ) → tt σ H Q
end
def ET (cl : Str → Option Addr) (X : Cx) (e : Expr) (ex : En → Ou Bool) : Prop := ∀ W, Takes X W → ∃ t, PT X e t ∧ EvT X.K cl W t ex
def EW (cl : Str → Option Addr) (X : Cx) (e : Expr) (ex : En → Ou Bool) : Prop := ∀ W, Takes X W → ∃ t, PW X e t ∧ EvT X.K cl W t ex
theorem EW.et {cl : Str → Option Addr} {X : Cx} {e : Expr} {ex : En → Ou Bool} (h : EW cl X e ex) : ET cl X e ex := fun W tk => let ⟨t, p, v⟩ := h W tk; ⟨t, p.pt, v⟩
/-- a result that is a bool -/
def bB (r : R) (ρ : En) : Ou Bool := match r with
  | .v (.bl b) => .ok b ρ
  | _ => .st
def tB' (ex : En → Ou R) : En → Ou Bool := fun ρ => (ex ρ).bn bB
/-- truth -/
def truD : D → Option Bool
  | .non => some false
  | .bl b => some b
  | .int i => some (i != 0)
  | .str y => if y.length ≤ sizeLine then some ((y.length : Int) != 0) else none
  | .lst ds => some (!ds.isEmpty)
  | .tup ds => some (!ds.isEmpty)
  | _ => none
def truX (r : R) (ρ : En) : Ou Bool := match pk r ρ with
  | some d => (match truD d with
    | some b => .ok b ρ
    | none => .st)
  | none => .st
def tTr (ex : En → Ou R) : En → Ou Bool := fun ρ => (ex ρ).bn truX
def tNotX (ex : En → Ou Bool) : En → Ou Bool := fun ρ => (ex ρ).bn fun b ρ1 => .ok (!b) ρ1
def tAndX (ea eb : En → Ou Bool) : En → Ou Bool := fun ρ => (ea ρ).bn fun b ρ1 => if b then eb ρ1 else .ok false ρ1
def tOrX (ea eb : En → Ou Bool) : En → Ou Bool := fun ρ => (ea ρ).bn fun b ρ1 => if b then .ok true ρ1 else eb ρ1
def xAnd (ea eb : En → Ou R) : En → Ou R := fun ρ => (tB' ea ρ).bn fun b ρ1 => if b then eb ρ1 else .ok (.v (.bl false)) ρ1
def xOr (ea eb : En → Ou R) : En → Ou R := fun ρ => (tB' ea ρ).bn fun b ρ1 => if b then .ok (.v (.bl true)) ρ1 else eb ρ1
def xNot (ea : En → Ou R) : En → Ou R := fun ρ => (tB' ea ρ).bn fun b ρ1 => .ok (.v (.bl (!b))) ρ1
def xIf (t : En → Ou Bool) (ea eb : En → Ou R) : En → Ou R := fun ρ => (t ρ).bn fun b ρ1 => if b then ea ρ1 else eb ρ1
section
variable {K : PySem.W.Frag} {cl : Str → Option Addr} {W : WX} {ta tb : TE} {ea eb : En → Ou R} {F H : Hp} {σ : L2.St} {ρ : En}
theorem EvT.then {te : TT} {ex : En → Ou Bool} {β : Type} {f : Bool → En → Ou β} {P : Ou β → Prop} {k : Bool → Hp → Prop} (h : EvT K cl W te ex) (S : Sta K cl F σ H ρ) (hP : P ((ex ρ).bn f))
    (hst : P .st → False) (her : ∀ x ρ', P (.er x ρ') → ∀ c d F' H', Sta K cl F' σ H' ρ' → Stp (fun _ => true) σ ρ F H σ ρ' F' H' → ErrOk K cl F' x c d → W c d σ H')
    (hok : ∀ r ρ', P (f r ρ') → ∀ F' H', Sta K cl F' σ H' ρ' → Stp (fun _ => true) σ ρ F H σ ρ' F' H' → k r H') : te σ H k := by
  refine h F σ H ρ k S ?_
  cases e : ex ρ with
  | st => rw [e] at hP; exact hst hP
  | er x ρ' => rw [e] at hP; exact her x ρ' hP
  | ok r ρ' => rw [e] at hP; exact hok r ρ' hP
theorem PstT.from {Q : Bool → Hp → Prop} {o : Ou Bool} {F0 H0 : Hp} {ρ0 : En} (st : Stp (fun _ => true) σ ρ0 F0 H0 σ ρ F H) (h : PstT K cl W Q σ ρ0 F0 H0 o) : PstT K cl W Q σ ρ F H o := by
  cases o with
  | ok d ρ' => exact fun F' H' S' s' => h F' H' S' (st.trans s')
  | er x ρ' => exact fun c d F' H' S' s' r => h c d F' H' S' (st.trans s') r
  | st => exact h
/-- .. the other way: what was wanted from the start is wanted here -/
theorem ev_tB (ha : EvE K cl W ta ea) : EvT K cl W (tB ta) (tB' ea) := by
  intro F σ H ρ Q S q
  refine ha.then (P := PstT K cl W Q σ ρ F H) S q (fun z => z) (fun _ _ z => z) fun r ρ1 q x F1 H1 S1 s1 rel => ?_
  unfold bB at q
  cases r with
  | v d => cases d with
    | bl b => cases rel; exact ⟨b, rfl, q F1 H1 S1 s1⟩
    | _ => exact q.elim
  | _ => exact q.elim
theorem ev_tTest (ha : EvE K cl W ta ea) : EvT K cl W (tTest ta) (tB' ea) := ev_tB ha
theorem ev_tTr (ha : EvE K cl W ta ea) : EvT K cl W (fun σ H Q => ta σ H fun x H' => ∃ k, TruV K x H' k ∧ Q k H') (tTr ea) := by
  intro F σ H ρ Q S q
  refine ha.then (P := PstT K cl W Q σ ρ F H) S q (fun z => z) (fun _ _ z => z) fun r ρ1 q x F1 H1 S1 s1 rel => ?_
  unfold truX at q
  cases e1 : pk r ρ1 with
  | none => rw [e1] at q; exact q.elim
  | some d =>
    rw [e1] at q
    have p := pk_ok S1 rel e1
    have fin : ∀ b, truD d = some b → TruV K x H1 b → ∃ k, TruV K x H1 k ∧ Q k H1 := fun b e t => by
      simp only [e] at q
      exact ⟨b, t, q F1 H1 S1 s1⟩
    cases d with
    | non => exact fin false rfl (by rw [show x = .non from p]; rfl)
    | bl b => exact fin b rfl (by rw [show x = .bl b from p]; rfl)
    | int b => exact fin _ rfl (by rw [show x = .int b from p]; rfl)
    | str b =>
      by_cases h : b.length ≤ sizeLine
      · exact fin _ (if_pos h) (by rw [show x = .str b from p]; exact ⟨h, rfl⟩)
      · have : truD (.str b) = none := if_neg h
        simp only [this] at q
        exact q.elim
    | lst ds =>
      obtain ⟨a, vs, rfl, ha, r⟩ := p
      refine fin _ rfl (.inl ⟨vs, .inl (.inl ha), ?_⟩)
      have := r.1
      cases vs <;> cases ds <;> simp_all
    | tup ds =>
      obtain ⟨_, a, vs, rfl, ha, _, r⟩ := p
      refine fin _ rfl (.inr (.inl ⟨vs, ha, ?_⟩))
      have := r.1
      cases vs <;> cases ds <;> simp_all
    | _ => exact q.elim
theorem ev_tNot {t : TT} {ex : En → Ou Bool} (h : EvT K cl W t ex) : EvT K cl W (tNot t) (tNotX ex) := by
  intro F σ H ρ Q S q
  exact h.then (P := PstT K cl W Q σ ρ F H) (k := fun c H1 => Q (!c) H1) S q (fun z => z) (fun _ _ z => z) fun b ρ1 q F1 H1 S1 s1 => q F1 H1 S1 s1
theorem ev_tAnd {t u : TT} {ex ey : En → Ou Bool} (h : EvT K cl W t ex) (h2 : EvT K cl W u ey) : EvT K cl W (tAnd t u) (tAndX ex ey) := by
  intro F σ H ρ Q S q
  refine h.then (P := PstT K cl W Q σ ρ F H) S q (fun z => z) (fun _ _ z => z) fun b ρ1 q F1 H1 S1 s1 => ?_
  cases b with
  | true => exact h2 F1 σ H1 ρ1 Q S1 (PstT.from s1 q)
  | false => exact q F1 H1 S1 s1
theorem ev_tOr {t u : TT} {ex ey : En → Ou Bool} (h : EvT K cl W t ex) (h2 : EvT K cl W u ey) : EvT K cl W (tOr t u) (tOrX ex ey) := by
  intro F σ H ρ Q S q
  refine h.then (P := PstT K cl W Q σ ρ F H) S q (fun z => z) (fun _ _ z => z) fun b ρ1 q F1 H1 S1 s1 => ?_
  cases b with
  | true => exact q F1 H1 S1 s1
  | false => exact h2 F1 σ H1 ρ1 Q S1 (PstT.from s1 q)
theorem ev_andV (ha : EvE K cl W ta ea) (hb : EvE K cl W tb eb) : EvE K cl W (tAndV ta tb) (xAnd ea eb) := by
  intro F σ H ρ Q S q
  refine (ev_tB ha).then (P := PstE K cl W Q σ ρ F H) (k := fun c H1 => if c = true then tb σ H1 Q else Q (.bl false) H1) S q (fun z => z) (fun _ _ z => z) fun b ρ1 q F1 H1 S1 s1 => ?_
  cases b with
  | true => exact hb F1 σ H1 ρ1 Q S1 (PstE.from s1 q)
  | false => exact q _ F1 H1 S1 s1 (.bl false)
theorem ev_orV (ha : EvE K cl W ta ea) (hb : EvE K cl W tb eb) : EvE K cl W (tOrV ta tb) (xOr ea eb) := by
  intro F σ H ρ Q S q
  refine (ev_tB ha).then (P := PstE K cl W Q σ ρ F H) (k := fun c H1 => if c = true then Q (.bl true) H1 else tb σ H1 Q) S q (fun z => z) (fun _ _ z => z) fun b ρ1 q F1 H1 S1 s1 => ?_
  cases b with
  | true => exact q _ F1 H1 S1 s1 (.bl true)
  | false => exact hb F1 σ H1 ρ1 Q S1 (PstE.from s1 q)
theorem ev_notV (ha : EvE K cl W ta ea) : EvE K cl W (tNotV ta) (xNot ea) := by
  intro F σ H ρ Q S q
  exact (ev_tB ha).then (P := PstE K cl W Q σ ρ F H) (k := fun c H1 => Q (.bl (!c)) H1) S q (fun z => z) (fun _ _ z => z) fun b ρ1 q F1 H1 S1 s1 => q _ F1 H1 S1 s1 (.bl _)
theorem ev_if {t : TT} {ex : En → Ou Bool} (h : EvT K cl W t ex) (ha : EvE K cl W ta ea) (hb : EvE K cl W tb eb) : EvE K cl W (tIf t ta tb) (xIf ex ea eb) := by
  intro F σ H ρ Q S q
  refine h.then (P := PstE K cl W Q σ ρ F H) S q (fun z => z) (fun _ _ z => z) fun b ρ1 q F1 H1 S1 s1 => ?_
  cases b with
  | true => exact ha F1 σ H1 ρ1 Q S1 (PstE.from s1 q)
  | false => exact hb F1 σ H1 ρ1 Q S1 (PstE.from s1 q)
end
section
variable {cl : Str → Option Addr} {X : Cx} {a b c : Expr} {ea eb ec : En → Ou R} {xa xb : En → Ou Bool} {pos : Pos} {rest : List Expr}
theorem et_val (ha : EE cl X a ea) (he : ∀ whole, isTrue a X.env whole = (do let v ← whole; standAt a.pos; holding [v] (truthy v)) := by intro _; rfl) : ET cl X a (tTr ea) := fun W tk =>
  let ⟨_, p, v⟩ := ha W tk; ⟨_, pt_truth p he, ev_tTr v⟩
theorem et_not (ha : ET cl X a xa) : ET cl X (.UnaryOp .Not a pos) (tNotX xa) := fun W tk => let ⟨_, p, v⟩ := ha W tk; ⟨_, pt_not p, ev_tNot v⟩
theorem ew_and1 (ha : ET cl X a xa) : EW cl X (.BoolOp .And [a] pos) xa := fun W tk => let ⟨_, p, v⟩ := ha W tk; ⟨_, pw_and1 p, v⟩
theorem ew_or1 (ha : ET cl X a xa) : EW cl X (.BoolOp .Or [a] pos) xa := fun W tk => let ⟨_, p, v⟩ := ha W tk; ⟨_, pw_or1 p, v⟩
theorem ew_and (ha : ET cl X a xa) (hb : EW cl X (.BoolOp .And (b :: rest) pos) xb) : EW cl X (.BoolOp .And (a :: b :: rest) pos) (tAndX xa xb) := fun W tk =>
  let ⟨_, p, v⟩ := ha W tk; let ⟨_, p2, v2⟩ := hb W tk; ⟨_, pw_and p p2, ev_tAnd v v2⟩
theorem ew_or (ha : ET cl X a xa) (hb : EW cl X (.BoolOp .Or (b :: rest) pos) xb) : EW cl X (.BoolOp .Or (a :: b :: rest) pos) (tOrX xa xb) := fun W tk =>
  let ⟨_, p, v⟩ := ha W tk; let ⟨_, p2, v2⟩ := hb W tk; ⟨_, pw_or p p2, ev_tOr v v2⟩
/-- comparisons as tests -/
theorem et_cmpop {op : CmpOp} {r : R2} {f : D → D → Option R} (ho : OpR X (compareOp op) r) (hs : RS2 X.K cl r f) (ha : EE cl X a ea) (hb : EE cl X b eb) (hm : behindInMarks op b = false := by first | exact nomark _ | rfl) : ET cl X (.Compare a [op] [b] pos) (tB' (xBin f ea eb)) := fun W tk =>
  let ⟨ta, pa, va⟩ := ha W tk
  let ⟨tb, pb, vb⟩ := hb W tk
  ⟨_, pt_cmpR ho pa pb hm, ev_tTest (ev_bin hs va vb)⟩
theorem et_lt (ha : EE cl X a ea) (hb : EE cl X b eb) : ET cl X (.Compare a [.Lt] [b] pos) (tB' (xBin ltD ea eb)) := et_cmpop op_ltA rs_ltA ha hb
theorem et_le (ha : EE cl X a ea) (hb : EE cl X b eb) : ET cl X (.Compare a [.LtE] [b] pos) (tB' (xBin leD ea eb)) := et_cmpop op_leA rs_leA ha hb
theorem et_gt (ha : EE cl X a ea) (hb : EE cl X b eb) : ET cl X (.Compare a [.Gt] [b] pos) (tB' (xBin gtD ea eb)) := et_cmpop op_gt rs_IB ha hb
theorem et_ge (ha : EE cl X a ea) (hb : EE cl X b eb) : ET cl X (.Compare a [.GtE] [b] pos) (tB' (xBin geD ea eb)) := et_cmpop op_ge rs_IB ha hb
theorem et_eq {k : Nat} (hr : Room k X.A) (ha : EE cl X a ea) (hb : EE cl X b eb) : ET cl X (.Compare a [.Eq] [b] pos) (tB' (xBin (eqD false) ea eb)) := et_cmpop (op_eqD hr.units) rs_eqD ha hb
theorem et_ne {k : Nat} (hr : Room k X.A) (ha : EE cl X a ea) (hb : EE cl X b eb) : ET cl X (.Compare a [.NotEq] [b] pos) (tB' (xBin (eqD true) ea eb)) := et_cmpop (op_neD hr.units) rs_neD ha hb
theorem et_isN (ha : EE cl X a ea) (hb : EE cl X b eb) : ET cl X (.Compare a [.Is] [b] pos) (tB' (xBin (isND false) ea eb)) := et_cmpop op_isN (rs_isN false fun x H Q q => ⟨rfl, q⟩) ha hb
theorem et_notN (ha : EE cl X a ea) (hb : EE cl X b eb) : ET cl X (.Compare a [.IsNot] [b] pos) (tB' (xBin (isND true) ea eb)) := et_cmpop op_notN (rs_isN true fun x H Q q => ⟨rfl, q⟩) ha hb
/-- values -/
theorem ee_one {op} (ha : EE cl X a ea) : EE cl X (.BoolOp op [a] pos) ea := fun W tk => let ⟨_, p, v⟩ := ha W tk; ⟨_, pe_one p, v⟩
theorem ee_and (ha : EE cl X a ea) (hb : EE cl X (.BoolOp .And (b :: rest) pos) eb) : EE cl X (.BoolOp .And (a :: b :: rest) pos) (xAnd ea eb) := fun W tk =>
  let ⟨_, p, v⟩ := ha W tk; let ⟨_, p2, v2⟩ := hb W tk; ⟨_, pe_and p p2, ev_andV v v2⟩
theorem ee_or (ha : EE cl X a ea) (hb : EE cl X (.BoolOp .Or (b :: rest) pos) eb) : EE cl X (.BoolOp .Or (a :: b :: rest) pos) (xOr ea eb) := fun W tk =>
  let ⟨_, p, v⟩ := ha W tk; let ⟨_, p2, v2⟩ := hb W tk; ⟨_, pe_or p p2, ev_orV v v2⟩
theorem ee_not (ha : EE cl X a ea) : EE cl X (.UnaryOp .Not a pos) (xNot ea) := fun W tk => let ⟨_, p, v⟩ := ha W tk; ⟨_, pe_not p, ev_notV v⟩
theorem ee_if (hc : ET cl X c xa) (ha : EE cl X a ea) (hb : EE cl X b eb) : EE cl X (.IfExp c a b pos) (xIf xa ea eb) := fun W tk =>
  let ⟨_, p, v⟩ := hc W tk; let ⟨_, p1, v1⟩ := ha W tk; let ⟨_, p2, v2⟩ := hb W tk; ⟨_, pe_ifExp p p1 p2, ev_if v v1 v2⟩
end

/-! ### a < b < c -/
def chB (r : R) (ρ : En) (k : En → Ou R) : Ou R := match r with
  | .v (.bl true) => k ρ
  | .v (.bl false) => .ok (.v (.bl false)) ρ
  | _ => .st
def xChain (f g : D → D → Option R) (ea eb ec : En → Ou R) : En → Ou R := fun ρ => (ea ρ).bn fun ra ρ1 => (eb ρ1).bn fun rb ρ2 => (lk2 f ra rb ρ2).bn fun z ρ3 =>
  chB z ρ3 fun ρ3 => (ec ρ3).bn fun rc ρ4 => lk2 g rb rc ρ4
section
variable {K : PySem.W.Frag} {cl : Str → Option Addr} {W : WX} {ta tb tc : TE} {ea eb ec : En → Ou R} {F H : Hp} {σ : L2.St} {ρ : En}
/-- an operator applied to two results -/
theorem lk2_run {r : R2} {f : D → D → Option R} {σ0 : L2.St} {ρ0 : En} {H0 : Hp} {x y : V} {ra rb : R} {k : VK} {β : Type} {g : R → En → Ou β} {P : Ou β → Prop} (hs : RS2 K cl r f) (S : Sta K cl F σ H ρ) (ha : RelR K cl σ0 ρ0 H0 σ ρ F H x ra) (hb : RelR K cl σ0 ρ0 H0 σ ρ F H y rb)
    (q : P ((lk2 f ra rb ρ).bn g)) (hst : P .st → False) (hk : ∀ z F' H' o, P (g o ρ) → Sta K cl F' σ H' ρ → Stp (fun _ => true) σ ρ F H σ ρ F' H' → RelR K cl σ ρ H σ ρ F' H' z o → k z H') : r x y H k := by
  unfold lk2 at q
  cases e1 : pk ra ρ with
  | none => rw [e1] at q; exact (hst q).elim
  | some a =>
    cases e2 : pk rb ρ with
    | none => rw [e1, e2] at q; exact (hst q).elim
    | some b =>
      rw [e1, e2] at q
      simp only at q
      cases e3 : f a b with
      | none => rw [e3] at q; exact (hst q).elim
      | some out =>
        rw [e3] at q
        exact hs F H x y a b out S.sub (pk_ok S ha e1) (pk_ok S hb e2) e3 _ fun z F3 H3 g rr => hk z F3 H3 out q (g.sta S) g.stp (rr.rel S)
theorem ev_chain {r r' : R2} {f g : D → D → Option R} (hs : RS2 K cl r f) (hs' : RS2 K cl r' g) (ha : EvE K cl W ta ea) (hb : EvE K cl W tb eb) (hc : EvE K cl W tc ec) : EvE K cl W (tChain r r' ta tb tc) (xChain f g ea eb ec) := by
  intro F σ H ρ Q S q
  refine ha.then (P := PstE K cl W Q σ ρ F H) S q (fun z => z) (fun _ _ z => z) fun ra ρ1 q x F1 H1 S1 s1 rel => ?_
  refine hb.then (P := PstE K cl W Q σ ρ F H) S1 q (fun z => z) (fun _ _ z c d F' H' S' s' er => z c d F' H' S' (s1.trans s') er) fun rb ρ2 q y F2 H2 S2 s2 rel2 => ?_
  refine lk2_run (P := PstE K cl W Q σ ρ F H) hs S2 (rel.step s2) (rel2.from s1) q (fun z => z) fun z F3 H3 o q S3 s3 rel3 => ?_
  unfold chB at q
  have s13 := (s1.trans s2).trans s3
  cases o with
  | v d => cases d with
    | bl c =>
      cases rel3
      refine ⟨c, rfl, ?_⟩
      cases c with
      | true =>
        refine hc.then (P := PstE K cl W Q σ ρ F H) S3 q (fun z => z) (fun _ _ z c d F' H' S' s' er => z c d F' H' S' (s13.trans s') er) fun rc ρ4 q u F4 H4 S4 s4 rel4 => ?_
        have q' : PstE K cl W Q σ ρ F H ((lk2 g rb rc ρ4).bn fun r ρ => .ok r ρ) := by
          cases h : lk2 g rb rc ρ4 with
          | ok a b => rw [h] at q; exact q
          | er a b => rw [h] at q; exact q
          | st => rw [h] at q; exact q
        refine lk2_run (P := PstE K cl W Q σ ρ F H) hs' S4 (((rel2.from s1).step s3).step s4) (rel4.from s13) q' (fun z => z) fun z F5 H5 o q S5 s5 rel5 => ?_
        exact q z F5 H5 S5 ((s13.trans s4).trans s5) (rel5.from (s13.trans s4))
      | false => exact q _ F3 H3 S3 s13 (.bl false)
    | _ => exact q.elim
  | _ => exact q.elim
end
section
variable {cl : Str → Option Addr} {X : Cx} {a b c : Expr} {ea eb ec : En → Ou R} {pos : Pos} {op op' : CmpOp} {r r' : R2} {f g : D → D → Option R}
theorem ee_chain (ho : OpR X (compareOp op) r) (hs : RS2 X.K cl r f) (ho' : OpR X (compareOp op') r') (hs' : RS2 X.K cl r' g) (ha : EE cl X a ea) (hb : EE cl X b eb) (hc : EE cl X c ec) (hm : lastMarks [op, op'] [b, c] = false := by rfl) : EE cl X (.Compare a [op, op'] [b, c] pos) (xChain f g ea eb ec) := fun W tk =>
  let ⟨_, p, v⟩ := ha W tk; let ⟨_, p1, v1⟩ := hb W tk; let ⟨_, p2, v2⟩ := hc W tk; ⟨_, pe_chain ho ho' p p1 p2 hm, ev_chain hs hs' v v1 v2⟩
theorem et_chain (ho : OpR X (compareOp op) r) (hs : RS2 X.K cl r f) (ho' : OpR X (compareOp op') r') (hs' : RS2 X.K cl r' g) (ha : EE cl X a ea) (hb : EE cl X b eb) (hc : EE cl X c ec) (hm : lastMarks [op, op'] [b, c] = false := by rfl) : ET cl X (.Compare a [op, op'] [b, c] pos) (tB' (xChain f g ea eb ec)) := fun W tk =>
  let ⟨_, p, v⟩ := ha W tk; let ⟨_, p1, v1⟩ := hb W tk; let ⟨_, p2, v2⟩ := hc W tk; ⟨_, pt_chain ho ho' p p1 p2 hm, ev_tTest (ev_chain hs hs' v v1 v2)⟩
end

/-! ### arguments, displays -/
section
variable (K : PySem.W.Frag) (cl : Str → Option Addr)
def PstA (W : WX) (Q : List V → Hp → Prop) (σ : L2.St) (ρ : En) (F H : Hp) : Ou (List D) → Prop
  | .ok ds ρ' => ∀ xs F' H', Sta K cl F' σ H' ρ' → Stp (fun _ => true) σ ρ F H σ ρ' F' H' → RepL K cl F' xs ds → Q xs H'
  | .er e ρ' => ∀ c d F' H', Sta K cl F' σ H' ρ' → Stp (fun _ => true) σ ρ F H σ ρ' F' H' → ErrOk K cl F' e c d → W c d σ H'
  | .st => False
def EvA (W : WX) (tt : TA) (ex : En → Ou (List D)) : Prop := ∀ F σ H ρ Q, Sta K cl F σ H ρ → PstA K cl W Q σ ρ F H (ex ρ) → tt σ H Q
end
def EA (cl : Str → Option Addr) (X : Cx) (es : List Expr) (ex : En → Ou (List D)) : Prop := ∀ W, Takes X W → ∃ t, PA X es t ∧ EvA X.K cl W t ex
def aNil : En → Ou (List D) := fun ρ => .ok [] ρ
def aCons (e : En → Ou R) (r : En → Ou (List D)) : En → Ou (List D) := fun ρ => (vl e ρ).bn fun d ρ1 => (r ρ1).bn fun ds ρ2 => .ok (d :: ds) ρ2
def xTup (a : En → Ou (List D)) : En → Ou R := fun ρ => (a ρ).bn fun ds ρ1 => if ds.length ≤ sizeLine then .ok (.v (.tup ds)) ρ1 else .st
def xLst (a : En → Ou (List D)) : En → Ou R := fun ρ => (a ρ).bn fun ds ρ1 => if ds.length ≤ sizeLine then .ok (.o (.L ds)) ρ1 else .st
section
variable {K : PySem.W.Frag} {cl : Str → Option Addr} {W : WX} {ta : TE} {tr : TA} {ea : En → Ou R} {er : En → Ou (List D)} {F H : Hp} {σ : L2.St} {ρ : En}
theorem EvA.then {te : TA} {ex : En → Ou (List D)} {β : Type} {f : List D → En → Ou β} {P : Ou β → Prop} {k : List V → Hp → Prop} (h : EvA K cl W te ex) (S : Sta K cl F σ H ρ) (hP : P ((ex ρ).bn f))
    (hst : P .st → False) (her : ∀ x ρ', P (.er x ρ') → ∀ c d F' H', Sta K cl F' σ H' ρ' → Stp (fun _ => true) σ ρ F H σ ρ' F' H' → ErrOk K cl F' x c d → W c d σ H')
    (hok : ∀ r ρ', P (f r ρ') → ∀ xs F' H', Sta K cl F' σ H' ρ' → Stp (fun _ => true) σ ρ F H σ ρ' F' H' → RepL K cl F' xs r → k xs H') : te σ H k := by
  refine h F σ H ρ k S ?_
  cases e : ex ρ with
  | st => rw [e] at hP; exact hst hP
  | er x ρ' => rw [e] at hP; exact her x ρ' hP
  | ok r ρ' => rw [e] at hP; exact hok r ρ' hP
theorem ev_nil : EvA K cl W tNil aNil := fun F σ H ρ Q S q => q [] F H S Stp.refl RepL.nil
theorem ev_cons (ha : EvE K cl W ta ea) (hr : EvA K cl W tr er) : EvA K cl W (tCons ta tr) (aCons ea er) := by
  intro F σ H ρ Q S q
  refine ha.val.then (P := PstA K cl W Q σ ρ F H) S q (fun z => z) (fun _ _ z => z) fun d ρ1 q x F1 H1 S1 s1 rel => ?_
  refine hr.then (P := PstA K cl W Q σ ρ F H) S1 q (fun z => z) (fun _ _ z c d F' H' S' s' er => z c d F' H' S' (s1.trans s') er) fun ds ρ2 q xs F2 H2 S2 s2 rel2 => ?_
  exact q (x :: xs) F2 H2 S2 (s1.trans s2) (RepL.cons (rel.mono s2.mono) rel2)
theorem ev_tup (ha : EvA K cl W tr er) : EvE K cl W (tTup tr) (xTup er) := by
  intro F σ H ρ Q S q
  refine ha.then (P := PstE K cl W Q σ ρ F H) S q (fun z => z) (fun _ _ z => z) fun ds ρ1 q xs F1 H1 S1 s1 rel => ?_
  by_cases h : ds.length ≤ sizeLine
  · rw [if_pos h] at q
    refine ⟨by rw [rel.1]; exact h, fun p n => ?_⟩
    obtain ⟨g, rr⟩ := resT (cl := cl) S1.sub n rel
    exact q _ _ _ (g.sta S1) (s1.trans g.stp) ((rr.rel S1).from s1)
  · rw [if_neg h] at q; exact q.elim
theorem ev_lst (ha : EvA K cl W tr er) : EvE K cl W (tLst tr) (xLst er) := by
  intro F σ H ρ Q S q
  refine ha.then (P := PstE K cl W Q σ ρ F H) S q (fun z => z) (fun _ _ z => z) fun ds ρ1 q xs F1 H1 S1 s1 rel => ?_
  by_cases h : ds.length ≤ sizeLine
  · rw [if_pos h] at q
    refine ⟨by rw [rel.1]; exact h, fun p n => ?_⟩
    obtain ⟨g, rr⟩ := resL (cl := cl) S1.sub n rel
    exact q _ _ _ (g.sta S1) (s1.trans g.stp) ((rr.rel S1).from s1)
  · rw [if_neg h] at q; exact q.elim
end
section
variable {cl : Str → Option Addr} {X : Cx} {a : Expr} {es : List Expr} {ea : En → Ou R} {er : En → Ou (List D)} {pos : Pos}
theorem ea_nil : EA cl X [] aNil := fun W tk => ⟨_, pa_nil, ev_nil⟩
theorem ea_cons (ha : EE cl X a ea) (hr : EA cl X es er) (hs : starEach (a :: es) X.env = (false, eval a X.env) :: starEach es X.env := by rfl) : EA cl X (a :: es) (aCons ea er) := fun W tk =>
  let ⟨_, p, v⟩ := ha W tk; let ⟨_, p1, v1⟩ := hr W tk; ⟨_, pa_cons p p1 hs, ev_cons v v1⟩
theorem ee_tup {x1} (h : EA cl X es er) : EE cl X (.Tuple es x1 pos) (xTup er) := fun W tk => let ⟨_, p, v⟩ := h W tk; ⟨_, pe_tup p, ev_tup v⟩
theorem ee_lst (h : EA cl X es er) : EE cl X (.List es pos) (xLst er) := fun W tk => let ⟨_, p, v⟩ := h W tk; ⟨_, pe_lst p, ev_lst v⟩
end
end Dm
end TxtDm4

section TxtDm5
set_option Elab.async false
set_option linter.all false
set_option maxRecDepth 100000
/-! Dm5: subscripts, in, dicts, slices, calls of built-ins. -/
namespace Dm
open PySem PySem.Spec PyProof.Rows L2

/-! ### either of two readings -/
theorem PE.or {X : Cx} {e : Expr} {t t' : TE} (h : PE X e t) (h' : PE X e t') : PE X e (fun σ H Q => t σ H Q ∨ t' σ H Q) :=
  ⟨fun pins s σ H Q I q => q.elim (fun q => h.run pins s σ H Q I q) fun q => h'.run pins s σ H Q I q⟩
def oE (f g : D → D → Option R) (a b : D) : Option R := match f a b with
  | some r => some r
  | none => g a b
theorem ev_or {K : PySem.W.Frag} {cl : Str → Option Addr} {W : WX} {t t' : TE} {ea eb : En → Ou R} {f g : D → D → Option R} (h : EvE K cl W t (xBin f ea eb)) (h' : EvE K cl W t' (xBin g ea eb)) :
    EvE K cl W (fun σ H Q => t σ H Q ∨ t' σ H Q) (xBin (oE f g) ea eb) := by
  intro F σ H ρ Q S q
  have key : (∀ ra ρ1 rb ρ2, ea ρ = .ok ra ρ1 → eb ρ1 = .ok rb ρ2 → ∀ a b, pk ra ρ2 = some a → pk rb ρ2 = some b → (oE f g a b = f a b ∨ oE f g a b = g a b)) := fun ra ρ1 rb ρ2 _ _ a b _ _ => by
    unfold oE
    cases f a b with
    | some r => exact .inl rfl
    | none => exact .inr rfl
  have alt : xBin (oE f g) ea eb ρ = xBin f ea eb ρ ∨ xBin (oE f g) ea eb ρ = xBin g ea eb ρ := by
    unfold xBin
    cases e1 : ea ρ with
    | st => exact .inl rfl
    | er x ρ' => exact .inl rfl
    | ok ra ρ1 =>
      simp only [Ou.bn_ok]
      cases e2 : eb ρ1 with
      | st => exact .inl rfl
      | er x ρ' => exact .inl rfl
      | ok rb ρ2 =>
        simp only [Ou.bn_ok]
        unfold lk2
        cases e3 : pk ra ρ2 with
        | none => exact .inl rfl
        | some a =>
          cases e4 : pk rb ρ2 with
          | none => exact .inl rfl
          | some b =>
            simp only
            rcases key ra ρ1 rb ρ2 e1 e2 a b e3 e4 with z | z <;> rw [z]
            · exact .inl rfl
            · exact .inr rfl
  rcases alt with z | z
  · exact .inl (h F σ H ρ Q S (by rw [← z]; exact q))
  · exact .inr (h' F σ H ρ Q S (by rw [← z]; exact q))

/-! ### keys -/
def keyD : D → Option Key
  | .int i => some (.inl i)
  | .str x => some (.inr x)
  | _ => none
def keysD : List D → Option (List Key)
  | [] => some []
  | d :: ds => match keyD d, keysD ds with
    | some k, some ks => some (k :: ks)
    | _, _ => none
def valD {κ : Type} [DecidableEq κ] (es : List (κ × D)) (k : κ) : Option D := (es.find? fun kv => decide (kv.1 = k)).map (·.2)
def putD {κ : Type} [DecidableEq κ] (es : List (κ × D)) (k : κ) (d : D) : List (κ × D) :=
  if (es.any fun kv => decide (kv.1 = k)) = true then es.map (fun kv => if kv.1 = k then (kv.1, d) else kv) else es ++ [(k, d)]
section
variable {K : PySem.W.Frag} {cl : Str → Option Addr} {F H : Hp}
theorem RepKs.nil {κ : Type} : RepKs K cl F ([] : List (κ × V)) [] := ⟨rfl, fun i p q h => by simp at h⟩
theorem RepKs.cons {κ : Type} {p : κ × V} {q : κ × D} {kvs : List (κ × V)} {es : List (κ × D)} (e : p.1 = q.1) (h : Rep K cl F p.2 q.2) (r : RepKs K cl F kvs es) : RepKs K cl F (p :: kvs) (q :: es) := by
  refine ⟨by simp [e, r.1], fun i x y h1 h2 => ?_⟩
  cases i with
  | zero => simp at h1 h2; subst h1; subst h2; exact h
  | succ i => exact r.2 i x y (by simpa using h1) (by simpa using h2)
theorem RepKs.ind {κ : Type} {P : List (κ × V) → List (κ × D) → Prop} {kvs : List (κ × V)} {es : List (κ × D)} (r : RepKs K cl F kvs es) (h0 : P [] []) (h1 : ∀ p q kvs es, p.1 = q.1 → Rep K cl F p.2 q.2 → RepKs K cl F kvs es → P kvs es → P (p :: kvs) (q :: es)) : P kvs es := by
  induction kvs generalizing es with
  | nil =>
    cases es with
    | nil => exact h0
    | cons d ds => have := r.1; simp at this
  | cons v vs ih =>
    cases es with
    | nil => have := r.1; simp at this
    | cons d ds =>
      have e := r.1
      simp only [List.map_cons, List.cons.injEq] at e
      have r' : RepKs K cl F vs ds := ⟨e.2, fun i x y a b => r.2 (i + 1) x y (by simpa using a) (by simpa using b)⟩
      exact h1 v d vs ds e.1 (r.2 0 v d rfl rfl) r' (ih r')
theorem RepKs.val {κ : Type} [DecidableEq κ] {kvs : List (κ × V)} {es : List (κ × D)} (r : RepKs K cl F kvs es) (k : κ) :
    (valD es k = none ∧ valV kvs k = none) ∨ ∃ d v, valD es k = some d ∧ valV kvs k = some v ∧ Rep K cl F v d := by
  refine r.ind (P := fun kvs es => (valD es k = none ∧ valV kvs k = none) ∨ ∃ d v, valD es k = some d ∧ valV kvs k = some v ∧ Rep K cl F v d) (.inl ⟨rfl, rfl⟩) fun p q kvs es e h _ ih => ?_
  by_cases hk : q.1 = k
  · refine .inr ⟨q.2, p.2, ?_, ?_, h⟩
    · unfold valD; simp [List.find?_cons, hk]
    · unfold valV; simp [List.find?_cons, e.trans hk]
  · have hp : ¬ p.1 = k := fun z => hk (e.symm.trans z)
    have e1 : valD (q :: es) k = valD es k := by unfold valD; rw [List.find?_cons_of_neg (by simpa using hk)]
    have e2 : valV (p :: kvs) k = valV kvs k := valV_neg hp
    rw [e1, e2]
    exact ih
theorem RepKs.length {κ : Type} {kvs : List (κ × V)} {es : List (κ × D)} (r : RepKs K cl F kvs es) : kvs.length = es.length := by
  have := congrArg List.length r.1
  simpa using this
theorem RepKs.append {κ : Type} {kvs kvs' : List (κ × V)} {es es' : List (κ × D)} (r : RepKs K cl F kvs es) (r' : RepKs K cl F kvs' es') : RepKs K cl F (kvs ++ kvs') (es ++ es') :=
  r.ind (P := fun kvs es => RepKs K cl F (kvs ++ kvs') (es ++ es')) r' fun p q kvs es e h _ ih => RepKs.cons e h ih
theorem RepKs.put {κ : Type} [DecidableEq κ] {kvs : List (κ × V)} {es : List (κ × D)} {v : V} {d : D} (r : RepKs K cl F kvs es) (k : κ) (hv : Rep K cl F v d) : RepKs K cl F (putK kvs k v) (putD es k d) := by
  have hany : (kvs.any fun kv => decide (kv.1 = k)) = (es.any fun kv => decide (kv.1 = k)) :=
    r.ind (P := fun kvs es => (kvs.any fun kv => decide (kv.1 = k)) = (es.any fun kv => decide (kv.1 = k))) rfl fun p q kvs es e _ _ ih => by simp [e, ih]
  unfold putK putD
  rw [hany]
  split
  · refine r.ind (P := fun kvs es => RepKs K cl F (kvs.map fun kv => if kv.1 = k then (kv.1, v) else kv) (es.map fun kv => if kv.1 = k then (kv.1, d) else kv)) RepKs.nil fun p q kvs es e h _ ih => ?_
    simp only [List.map_cons]
    by_cases hk : q.1 = k
    · rw [if_pos hk, if_pos (e.trans hk)]
      exact RepKs.cons e hv ih
    · rw [if_neg hk, if_neg fun z => hk (e.symm.trans z)]
      exact RepKs.cons e h ih
  · exact r.append (RepKs.cons rfl hv RepKs.nil)
theorem Rep.key {x : V} {d : D} {k : Key} (h : Rep K cl F x d) (e : keyD d = some k) : x = kV k := by
  cases h <;> cases e <;> rfl
theorem RepL.keys {vs : List V} {ds : List D} {ks : List Key} (r : RepL K cl F vs ds) (e : keysD ds = some ks) : vs = ks.map kV := by
  refine r.ind (P := fun vs ds => ∀ ks, keysD ds = some ks → vs = ks.map kV) (fun ks e => by cases e; rfl) (fun v d vs ds h _ ih ks e => ?_) ks e
  unfold keysD at e
  cases e1 : keyD d with
  | none => rw [e1] at e; cases e
  | some k =>
    cases e2 : keysD ds with
    | none => rw [e1, e2] at e; cases e
    | some ks' =>
      rw [e1, e2] at e; cases e
      rw [h.key e1, ih ks' e2]
      rfl
/-- look d up under a key -/
def dgetD : D → D → Option (Option D)
  | .dK es, k => match keyD k with
    | some k => some (valD es k)
    | none => none
  | .dT es, .tup (d :: ds) => match keysD (d :: ds) with
    | some ks => some (valD es ks)
    | none => none
  | _, _ => none
theorem dget_ok {x y : V} {a b : D} {o : Option D} (ha : Pk K cl F H x a) (hb : Pk K cl F H y b) (e : dgetD a b = some o) :
    ∃ p ov, x = .ref p ∧ IsD H p ∧ DGet H p y ov ∧ ((o = none ∧ ov = none) ∨ ∃ d v, o = some d ∧ ov = some v ∧ Rep K cl F v d) := by
  have flat : ∀ {b : D} {k : Key}, Pk K cl F H y b → keyD b = some k → y = kV k := fun {b k} hb e => by
    cases b with
    | int i => cases e; exact hb
    | str i => cases e; exact hb
    | _ => cases e
  cases a with
  | dK es =>
    obtain ⟨p, kvs, rfl, hp, r⟩ := ha
    cases e1 : keyD b with
    | none => simp only [dgetD, e1] at e; cases e
    | some k =>
      simp only [dgetD, e1] at e; cases e
      have hy := flat hb e1
      refine ⟨p, valV kvs k, rfl, .inl ⟨kvs, hp⟩, .inl ⟨kvs, k, hp, hy, rfl⟩, ?_⟩
      rcases r.val k with ⟨h1, h2⟩ | ⟨d, v, h1, h2, h3⟩
      · exact .inl ⟨h1, h2⟩
      · exact .inr ⟨d, v, h1, h2, h3⟩
  | dT es =>
    obtain ⟨p, kvs, rfl, hp, r⟩ := ha
    cases b with
    | tup ds =>
      cases ds with
      | nil => cases e
      | cons d ds =>
        obtain ⟨_, q, vs, rfl, hq, hq2, r2⟩ := hb
        cases e1 : keysD (d :: ds) with
        | none => simp only [dgetD, e1] at e; cases e
        | some ks =>
          simp only [dgetD, e1] at e; cases e
          have hv := r2.keys e1
          have hq3 : H q = some (.tup (ks.map kV)) := by
            rcases hq2 with z | z
            · rw [z] at r2; have := r2.1; simp at this
            · rw [← hv]; exact z
          refine ⟨p, valV kvs ks, rfl, .inr ⟨kvs, hp⟩, .inr ⟨kvs, ks, q, hp, rfl, hq3, rfl⟩, ?_⟩
          rcases r.val ks with ⟨h1, h2⟩ | ⟨d, v, h1, h2, h3⟩
          · exact .inl ⟨h1, h2⟩
          · exact .inr ⟨d, v, h1, h2, h3⟩
    | _ => cases e
  | _ => cases e
end

/-! ### x[i] -/
def ixD : D → D → Option R
  | .lst ds, .int i => (atI ds i).map .v
  | .tup ds, .int i => (atI ds i).map .v
  | .scr ns, .int i => (atI ns i).map fun n => .v (.int n)
  | .str z, .int i => if z.length ≤ sizeLine then (atI z.cps.toList i).map fun c => .v (.str ⟨#[c]⟩) else none
  | _, _ => none
def dixD (a b : D) : Option R := match dgetD a b with
  | some (some d) => some (.v d)
  | _ => none
theorem atI_map {α β : Type} (f : α → β) (xs : List α) (i : Int) : atI (xs.map f) i = (atI xs i).map f := by
  unfold atI
  rw [List.length_map]
  cases ixN xs.length i with
  | none => rfl
  | some j => simp
theorem rs_ix {K : PySem.W.Frag} {cl : Str → Option Addr} : RS2 K cl (rIx K) ixD := by
  intro F H x y a b out s ha hb e Q q
  cases b with
  | int i =>
    cases hb
    cases a with
    | lst ds =>
      obtain ⟨p, vs, rfl, hp, r⟩ := ha
      obtain ⟨d, e1, rfl⟩ := Option.map_eq_some_iff.mp (show (atI ds i).map R.v = some out from e)
      obtain ⟨v, e2, rv⟩ := atI_rep r e1
      exact .inl ⟨p, vs, i, v, rfl, rfl, .inl (.inl hp), e2, q v F H (Grow.refl s) rv⟩
    | tup ds =>
      obtain ⟨_, p, vs, rfl, hp, _, r⟩ := ha
      obtain ⟨d, e1, rfl⟩ := Option.map_eq_some_iff.mp (show (atI ds i).map R.v = some out from e)
      obtain ⟨v, e2, rv⟩ := atI_rep r e1
      exact .inr (.inl ⟨p, vs, i, v, rfl, rfl, hp, e2, q v F H (Grow.refl s) rv⟩)
    | scr ns =>
      obtain ⟨p, rfl, hp⟩ := ha
      obtain ⟨n, e1, rfl⟩ := Option.map_eq_some_iff.mp (show (atI ns i).map (fun n => R.v (.int n)) = some out from e)
      exact .inl ⟨p, ns.map V.int, i, .int n, rfl, rfl, hp, by rw [atI_map, e1]; rfl, q _ F H (Grow.refl s) (.int n)⟩
    | str z =>
      cases ha
      simp only [ixD] at e
      split at e
      · rename_i h
        obtain ⟨c, e1, rfl⟩ := Option.map_eq_some_iff.mp e
        exact .inr (.inr ⟨z, i, c, rfl, rfl, h, e1, q _ F H (Grow.refl s) (.str _)⟩)
      · cases e
    | _ => cases e
  | _ => cases a <;> cases e
section
variable {K : PySem.W.Frag} {cl : Str → Option Addr} {W : WX} {ta tb : TE} {ea eb : En → Ou R}
def rDG : R2 := fun x y H Q => ∃ a v, x = .ref a ∧ DGet H a y (some v) ∧ Q v H
theorem rs_dg : RS2 K cl rDG dixD := by
  intro F H x y a b out s ha hb e Q q
  unfold dixD at e
  cases e1 : dgetD a b with
  | none => rw [e1] at e; cases e
  | some o =>
    cases o with
    | none => rw [e1] at e; cases e
    | some d =>
      rw [e1] at e; cases e
      obtain ⟨p, ov, rfl, _, hg, hh⟩ := dget_ok ha hb e1
      rcases hh with ⟨z, _⟩ | ⟨d', v, z, rfl, r⟩
      · cases z
      · cases z
        exact ⟨p, v, rfl, hg, q v F H (Grow.refl s) r⟩
end
def itemD := oE ixD dixD
section
variable {cl : Str → Option Addr} {X : Cx} {a b : Expr} {ea eb : En → Ou R} {pos : Pos} {k : Nat}
theorem ee_ix (hr : Room k X.A) (ha : EE cl X a ea) (hb : EE cl X b eb) (hs : PlainIx b := by exact fun _ _ => rfl) : EE cl X (.Subscript a b pos) (xBin itemD ea eb) := fun W tk =>
  let ⟨ta, pa, va⟩ := ha W tk
  let ⟨tb, pb, vb⟩ := hb W tk
  ⟨_, PE.or (pe_ix ix_seq pa pb hs) (pe_dget (hu_of hr) pa pb hs), ev_or (ev_bin rs_ix va vb) (ev_bin (r := rDG) rs_dg va vb)⟩
end

/-! ### x in y -/
def flatD : D → Bool
  | .non => true
  | .bl _ => true
  | .int _ => true
  | .str _ => true
  | _ => false
def vOf : D → V
  | .bl b => .bl b
  | .int i => .int i
  | .str x => .str x
  | _ => .non
theorem Rep.flat {K : PySem.W.Frag} {cl : Str → Option Addr} {F : Hp} {x : V} {d : D} (h : Rep K cl F x d) (e : flatD d = true) : x = vOf d ∧ flatV x = true := by
  cases h <;> first | exact ⟨rfl, rfl⟩ | cases e
theorem Pk.flat {K : PySem.W.Frag} {cl : Str → Option Addr} {F H : Hp} {x : V} {d : D} (h : Pk K cl F H x d) (e : flatD d = true) : x = vOf d ∧ flatV x = true := by
  cases d <;> first | (cases h; exact ⟨rfl, rfl⟩) | cases e
theorem RepL.flats {K : PySem.W.Frag} {cl : Str → Option Addr} {F : Hp} {vs : List V} {ds : List D} (r : RepL K cl F vs ds) (e : ds.all flatD = true) : vs = ds.map vOf ∧ vs.all flatV = true := by
  refine r.ind (P := fun vs ds => ds.all flatD = true → vs = ds.map vOf ∧ vs.all flatV = true) (fun _ => ⟨rfl, rfl⟩) (fun v d vs ds h _ ih e => ?_) e
  rw [List.all_cons, Bool.and_eq_true] at e
  obtain ⟨h1, h2⟩ := h.flat e.1
  obtain ⟨h3, h4⟩ := ih e.2
  exact ⟨by rw [h1, h3]; rfl, by rw [List.all_cons, h2, h4]; rfl⟩
/-- a flat thing in a row of flat things; a sign in a text; else data in data -/
def inD (neg : Bool) : D → D → Option R
  | a, .lst ds => if flatD a && ds.all flatD then some (.v (.bl (if neg then !inV (vOf a) (ds.map vOf) else inV (vOf a) (ds.map vOf)))) else none
  | a, .tup ds => if flatD a && ds.all flatD then some (.v (.bl (if neg then !inV (vOf a) (ds.map vOf) else inV (vOf a) (ds.map vOf)))) else none
  | .str z, .str y => match z.cps.toList with
    | [c] => some (.v (.bl (if neg then !decide (c ∈ y.cps.toList) else decide (c ∈ y.cps.toList))))
    | _ => none
  | _, _ => none
def rSign (neg : Bool) : R2 := fun x y H Q => ∃ (c : Nat) (z : Str), x = .str ⟨#[c]⟩ ∧ y = .str z ∧ Q (.bl (if neg then !decide (c ∈ z.cps.toList) else decide (c ∈ z.cps.toList))) H
theorem str_one {z : Str} {c : Nat} (h : z.cps.toList = [c]) : z = ⟨#[c]⟩ := by
  obtain ⟨⟨l⟩⟩ := z
  have : l = [c] := h
  rw [this]
theorem rs_in {K : PySem.W.Frag} {cl : Str → Option Addr} {neg : Bool} : RS2 K cl (fun x y H Q => rIn K neg x y H Q ∨ rSign neg x y H Q) (inD neg) := by
  intro F H x y a b out s ha hb e Q q
  cases b with
  | lst ds =>
    obtain ⟨p, vs, rfl, hp, r⟩ := hb
    have e' : (if (flatD a && ds.all flatD) = true then some (R.v (.bl (if neg then !inV (vOf a) (ds.map vOf) else inV (vOf a) (ds.map vOf)))) else none) = some out := by
      cases a <;> exact e
    split at e'
    · rename_i h
      rw [Bool.and_eq_true] at h
      cases e'
      obtain ⟨h1, h2⟩ := ha.flat h.1
      obtain ⟨h3, h4⟩ := r.flats h.2
      subst h1; subst h3
      exact .inl ⟨p, _, rfl, .inl (.inl (.inl hp)), h2, h4, q _ F H (Grow.refl s) (.bl _)⟩
    · cases e'
  | tup ds =>
    obtain ⟨_, p, vs, rfl, hp, _, r⟩ := hb
    have e' : (if (flatD a && ds.all flatD) = true then some (R.v (.bl (if neg then !inV (vOf a) (ds.map vOf) else inV (vOf a) (ds.map vOf)))) else none) = some out := by
      cases a <;> exact e
    split at e'
    · rename_i h
      rw [Bool.and_eq_true] at h
      cases e'
      obtain ⟨h1, h2⟩ := ha.flat h.1
      obtain ⟨h3, h4⟩ := r.flats h.2
      subst h1; subst h3
      exact .inl ⟨p, _, rfl, .inr hp, h2, h4, q _ F H (Grow.refl s) (.bl _)⟩
    · cases e'
  | str y' =>
    cases a with
    | str z =>
      cases ha; cases hb
      simp only [inD] at e
      split at e
      · rename_i c h
        cases e
        exact .inr ⟨c, y', by rw [str_one h], rfl, q _ F H (Grow.refl s) (.bl _)⟩
      · cases e
    | _ => cases e
  | _ => cases a <;> cases e
/-- a key in a dict -/
def dinD (neg : Bool) (a b : D) : Option R := match dgetD b a with
  | some o => some (.v (.bl (if neg then !o.isSome else o.isSome)))
  | none => none
def rDIn (neg : Bool) : R2 := fun y x H Q => ∃ a o, x = .ref a ∧ DGet H a y o ∧ Q (.bl (if neg then !o.isSome else o.isSome)) H
theorem rs_din {K : PySem.W.Frag} {cl : Str → Option Addr} {neg : Bool} : RS2 K cl (rDIn neg) (dinD neg) := by
  intro F H x y a b out s ha hb e Q q
  unfold dinD at e
  cases e1 : dgetD b a with
  | none => rw [e1] at e; cases e
  | some o =>
    rw [e1] at e; cases e
    obtain ⟨p, ov, rfl, _, hg, hh⟩ := dget_ok hb ha e1
    have : ov.isSome = o.isSome := by
      rcases hh with ⟨z, z2⟩ | ⟨d', v, z, z2, r⟩ <;> rw [z, z2] <;> rfl
    exact ⟨p, ov, rfl, hg, by rw [this]; exact q _ F H (Grow.refl s) (.bl _)⟩
def inAD (neg : Bool) := oE (inD neg) (dinD neg)
section
variable {cl : Str → Option Addr} {X : Cx} {a b : Expr} {ea eb : En → Ou R} {pos : Pos} {k : Nat}
theorem ee_in (hr : Room k X.A) (ha : EE cl X a ea) (hb : EE cl X b eb) (hm : behindInMarks .In b = false := by rfl) : EE cl X (.Compare a [.In] [b] pos) (xBin (inAD false) ea eb) := fun W tk =>
  let ⟨ta, pa, va⟩ := ha W tk
  let ⟨tb, pb, vb⟩ := hb W tk
  ⟨_, PE.or (pe_cmpR (op_in_seq.or op_in_sign) pa pb hm) (pe_cmp (pc_din (hu_of hr) pa pb) hm), ev_or (ev_bin (r := fun x y H Q => rIn X.K false x y H Q ∨ rSign false x y H Q) rs_in va vb) (ev_bin (r := rDIn false) rs_din va vb)⟩
theorem ee_notIn (hr : Room k X.A) (ha : EE cl X a ea) (hb : EE cl X b eb) (hm : behindInMarks .NotIn b = false := by rfl) : EE cl X (.Compare a [.NotIn] [b] pos) (xBin (inAD true) ea eb) := fun W tk =>
  let ⟨ta, pa, va⟩ := ha W tk
  let ⟨tb, pb, vb⟩ := hb W tk
  ⟨_, PE.or (pe_cmpR (op_notIn_seq.or op_notIn_sign) pa pb hm) (pe_cmp (pc_dnotin (hu_of hr) pa pb) hm), ev_or (ev_bin (r := fun x y H Q => rIn X.K true x y H Q ∨ rSign true x y H Q) rs_in va vb) (ev_bin (r := rDIn true) rs_din va vb)⟩
end

/-! ### slices -/
def cutD {α : Type} (xs : List α) (lo hi : Option Int) : List α := (xs.drop (HT.sIx xs.length 0 lo)).take (HT.sIx xs.length xs.length hi - HT.sIx xs.length 0 lo)
def slD (lo hi : Option Int) : D → Option R
  | .lst ds => some (.o (.L (cutD ds lo hi)))
  | .scr ns => some (.o (.L ((cutD ns lo hi).map .int)))
  | .tup ds => some (.v (.tup (cutD ds lo hi)))
  | .str z => if z.length ≤ sizeLine then some (.v (.str (cutS z lo hi))) else none
  | _ => none
def PX := En → Ou (Option Int)
def pNone : PX := fun ρ => .ok none ρ
def pSome (e : En → Ou R) : PX := fun ρ => (e ρ).bn fun r ρ1 => match r with
  | .v (.int i) => .ok (some i) ρ1
  | _ => .st
def xSl (e : En → Ou R) (lo hi : PX) : En → Ou R := fun ρ => (e ρ).bn fun r ρ1 => (lo ρ1).bn fun l ρ2 => (hi ρ2).bn fun h ρ3 => lk (slD l h) r ρ3
section
variable {K : PySem.W.Frag} {cl : Str → Option Addr} {W : WX} {F H : Hp} {σ : L2.St} {ρ : En}
theorem cut_map {α β : Type} (f : α → β) (xs : List α) (lo hi : Option Int) : cutD (xs.map f) lo hi = (cutD xs lo hi).map f := by
  unfold cutD
  rw [List.length_map, List.map_take, List.map_drop]
theorem RepL.cut {vs : List V} {ds : List D} (r : RepL K cl F vs ds) (lo hi : Option Int) : RepL K cl F (cutV vs lo hi) (cutD ds lo hi) := by
  unfold cutV cutD
  rw [r.1]
  exact (r.drop _).take _
theorem RepL.of_ints (ns : List Int) : RepL K cl F (ns.map V.int) (ns.map D.int) := by
  refine ⟨by simp, fun i v d h1 h2 => ?_⟩
  rw [List.getElem?_map] at h1 h2
  cases e : ns[i]? with
  | none => rw [e] at h1; cases h1
  | some n => rw [e] at h1 h2; cases h1; cases h2; exact .int n
def rSlAll (K : PySem.W.Frag) : V → Option Int → Option Int → Hp → VK → Prop := fun x lo hi H Q => rSlL K x lo hi H Q ∨ rSlA K x lo hi H Q ∨ rSlS x lo hi H Q
theorem rs_sl {lo hi : Option Int} : RS1 K cl (fun x H Q => rSlAll K x lo hi H Q) (slD lo hi) := by
  intro F H x a out s ha e Q q
  cases a with
  | lst ds =>
    obtain ⟨p, vs, rfl, hp, r⟩ := ha
    cases e
    refine .inl ⟨p, vs, rfl, .inl (.inl hp), fun a n => ?_⟩
    obtain ⟨g, rr⟩ := resL (cl := cl) s n (r.cut lo hi)
    exact q _ _ _ g rr
  | scr ns =>
    obtain ⟨p, rfl, hp⟩ := ha
    cases e
    refine .inl ⟨p, ns.map V.int, rfl, hp, fun a n => ?_⟩
    have rr := (RepL.of_ints (K := K) (cl := cl) (F := F) ns).cut lo hi
    rw [cut_map] at rr
    obtain ⟨g, rr⟩ := resL (cl := cl) s n rr
    exact q _ _ _ g rr
  | tup ds =>
    obtain ⟨ra, p, vs, rfl, hp, _, r⟩ := ha
    cases e
    refine .inr (.inl ⟨p, vs, rfl, hp, fun hw => ?_, fun hw a n => ?_⟩)
    · have : cutD ds lo hi = ds := by
        unfold cutD
        rw [r.1] at hw
        rw [hw.1, hw.2]
        simp
      rw [this] at q
      exact q _ F H (Grow.refl s) ra
    · obtain ⟨g, rr⟩ := resT (cl := cl) s n (r.cut lo hi)
      exact q _ _ _ g rr
  | str z =>
    cases ha
    simp only [slD] at e
    split at e
    · rename_i h
      cases e
      exact .inr (.inr ⟨z, rfl, h, q _ F H (Grow.refl s) (.str _)⟩)
    · cases e
  | _ => cases e
def PstO (K : PySem.W.Frag) (cl : Str → Option Addr) (W : WX) (Q : Option Int → Hp → Prop) (σ : L2.St) (ρ : En) (F H : Hp) : Ou (Option Int) → Prop
  | .ok b ρ' => ∀ F' H', Sta K cl F' σ H' ρ' → Stp (fun _ => true) σ ρ F H σ ρ' F' H' → Q b H'
  | .er e ρ' => ∀ c d F' H', Sta K cl F' σ H' ρ' → Stp (fun _ => true) σ ρ F H σ ρ' F' H' → ErrOk K cl F' e c d → W c d σ H'
  | .st => False
def EvO (K : PySem.W.Frag) (cl : Str → Option Addr) (W : WX) (tt : TO) (ex : PX) : Prop := ∀ F σ H ρ Q, Sta K cl F σ H ρ → PstO K cl W Q σ ρ F H (ex ρ) → tt σ H Q
theorem EvO.then {te : TO} {ex : PX} {β : Type} {f : Option Int → En → Ou β} {P : Ou β → Prop} {k : Option Int → Hp → Prop} (h : EvO K cl W te ex) (S : Sta K cl F σ H ρ) (hP : P ((ex ρ).bn f))
    (hst : P .st → False) (her : ∀ x ρ', P (.er x ρ') → ∀ c d F' H', Sta K cl F' σ H' ρ' → Stp (fun _ => true) σ ρ F H σ ρ' F' H' → ErrOk K cl F' x c d → W c d σ H')
    (hok : ∀ r ρ', P (f r ρ') → ∀ F' H', Sta K cl F' σ H' ρ' → Stp (fun _ => true) σ ρ F H σ ρ' F' H' → k r H') : te σ H k := by
  refine h F σ H ρ k S ?_
  cases e : ex ρ with
  | st => rw [e] at hP; exact hst hP
  | er x ρ' => rw [e] at hP; exact her x ρ' hP
  | ok r ρ' => rw [e] at hP; exact hok r ρ' hP
theorem ev_pNone : EvO K cl W tNoPart pNone := fun F σ H ρ Q S q => q F H S Stp.refl
theorem ev_pSome {te : TE} {ex : En → Ou R} (h : EvE K cl W te ex) : EvO K cl W (tPart te) (pSome ex) := by
  intro F σ H ρ Q S q
  refine h.then (P := PstO K cl W Q σ ρ F H) S q (fun z => z) (fun _ _ z => z) fun r ρ1 q x F1 H1 S1 s1 rel => ?_
  cases r with
  | v d => cases d with
    | int i => cases rel; exact ⟨i, rfl, q F1 H1 S1 s1⟩
    | _ => exact q.elim
  | _ => exact q.elim
theorem ev_sl {te : TE} {tl th : TO} {ex : En → Ou R} {lo hi : PX} (h : EvE K cl W te ex) (h1 : EvO K cl W tl lo) (h2 : EvO K cl W th hi) : EvE K cl W (tSl (rSlAll K) te tl th) (xSl ex lo hi) := by
  intro F σ H ρ Q S q
  refine h.then (P := PstE K cl W Q σ ρ F H) S q (fun z => z) (fun _ _ z => z) fun r ρ1 q x F1 H1 S1 s1 rel => ?_
  refine h1.then (P := PstE K cl W Q σ ρ F H) S1 q (fun z => z) (fun _ _ z c d F' H' S' s' er => z c d F' H' S' (s1.trans s') er) fun l ρ2 q F2 H2 S2 s2 => ?_
  have s12 := s1.trans s2
  refine h2.then (P := PstE K cl W Q σ ρ F H) S2 q (fun z => z) (fun _ _ z c d F' H' S' s' er => z c d F' H' S' (s12.trans s') er) fun u ρ3 q F3 H3 S3 s3 => ?_
  have s13 := s12.trans s3
  have rel3 := (rel.step s2).step s3
  unfold lk at q
  cases e1 : pk r ρ3 with
  | none => rw [e1] at q; exact q.elim
  | some a =>
    rw [e1] at q
    simp only at q
    cases e2 : slD l u a with
    | none => rw [e2] at q; exact q.elim
    | some out =>
      rw [e2] at q
      exact rs_sl F3 H3 x a out S3.sub (pk_ok S3 rel3 e1) e2 _ fun z F4 H4 g rr => q z F4 H4 (g.sta S3) (s13.trans g.stp) ((rr.rel S3).from s13)
end
section
variable {cl : Str → Option Addr} {X : Cx} {a b : Expr} {lo hi : Option Expr} {ea eb : En → Ou R} {l h : PX} {pos p2 : Pos}
def EP' (cl : Str → Option Addr) (X : Cx) (e : Option Expr) (ex : PX) : Prop := ∀ W, Takes X W → ∃ t, PO X e t ∧ EvO X.K cl W t ex
theorem ep_none : EP' cl X none pNone := fun W tk => ⟨_, po_none, ev_pNone⟩
theorem ep_some (ha : EE cl X a ea) : EP' cl X (some a) (pSome ea) := fun W tk => let ⟨_, p, v⟩ := ha W tk; ⟨_, po_some p, ev_pSome v⟩
theorem ee_sl (ha : EE cl X a ea) (h1 : EP' cl X lo l) (h2 : EP' cl X hi h) : EE cl X (.Subscript a (.Slice lo hi none p2) pos) (xSl ea l h) := fun W tk =>
  let ⟨_, p, v⟩ := ha W tk; let ⟨_, p1, v1⟩ := h1 W tk; let ⟨_, p2, v2⟩ := h2 W tk; ⟨_, pe_slice (sl_list.or (sl_tupA.or sl_str)) p p1 p2, ev_sl v v1 v2⟩
end
end Dm
end TxtDm5

section TxtDm6
set_option Elab.async false
set_option linter.all false
set_option maxRecDepth 100000
/-! Dm6: statements, targets, loops, comprehensions. -/
namespace Dm
open PySem PySem.Spec PyProof.Rows L2

inductive Fl where
  | nx | rt (r : R) | bk | ct
section
variable (K : PySem.W.Frag) (cl : Str → Option Addr)
def PstS (pn : Nat → Bool) (W : WX) (D : Ends) (σ : L2.St) (ρ : En) (F H : Hp) : Ou Fl → Prop
  | .ok .nx ρ' => ∀ σ' F' H', Sta K cl F' σ' H' ρ' → Stp pn σ ρ F H σ' ρ' F' H' → D.nx σ' H'
  | .ok (.rt r) ρ' => ∀ x σ' F' H', Sta K cl F' σ' H' ρ' → Stp pn σ ρ F H σ' ρ' F' H' → RelR K cl σ ρ H σ' ρ' F' H' x r → D.rt x H'
  | .ok .bk ρ' => ∀ σ' F' H', Sta K cl F' σ' H' ρ' → Stp pn σ ρ F H σ' ρ' F' H' → D.bk σ' H'
  | .ok .ct ρ' => ∀ σ' F' H', Sta K cl F' σ' H' ρ' → Stp pn σ ρ F H σ' ρ' F' H' → D.ct σ' H'
  | .er e ρ' => ∀ c d σ' F' H', Sta K cl F' σ' H' ρ' → Stp pn σ ρ F H σ' ρ' F' H' → ErrOk K cl F' e c d → W c d σ' H'
  | .st => False
def EvS (pn : Nat → Bool) (W : WX) (ts : TS) (sx : En → Ou Fl) : Prop := ∀ F σ H ρ D, Sta K cl F σ H ρ → PstS K cl pn W D σ ρ F H (sx ρ) → ts D σ H
def PstG (pn : Nat → Bool) (W : WX) (Q : L2.St → Hp → Prop) (σ : L2.St) (ρ : En) (F H : Hp) : Ou Unit → Prop
  | .ok _ ρ' => ∀ σ' F' H', Sta K cl F' σ' H' ρ' → Stp pn σ ρ F H σ' ρ' F' H' → Q σ' H'
  | .er e ρ' => ∀ c d σ' F' H', Sta K cl F' σ' H' ρ' → Stp pn σ ρ F H σ' ρ' F' H' → ErrOk K cl F' e c d → W c d σ' H'
  | .st => False
def EvG (pn : Nat → Bool) (W : WX) (g : TG) (gx : D → En → Ou Unit) : Prop := ∀ F σ H ρ x d Q, Sta K cl F σ H ρ → Rep K cl F x d → PstG K cl pn W Q σ ρ F H (gx d ρ) → g x σ H Q
end
def ES (cl : Str → Option Addr) (pn : Nat → Bool) (X : Cx) (s : Stmt) (sx : En → Ou Fl) : Prop := ∀ W, Takes X W → ∃ t, PS X s t ∧ EvS X.K cl pn W t sx
def ESs (cl : Str → Option Addr) (pn : Nat → Bool) (X : Cx) (s : List Stmt) (sx : En → Ou Fl) : Prop := ∀ W, Takes X W → ∃ t, PSs X s t ∧ EvS X.K cl pn W t sx
def EG (cl : Str → Option Addr) (pn : Nat → Bool) (X : Cx) (tg : Expr) (gx : D → En → Ou Unit) : Prop := ∀ W, Takes X W → ∃ g, PG X tg g ∧ EvG X.K cl pn W g gx

section
variable {K : PySem.W.Frag} {cl : Str → Option Addr} {F F' F1 F2 H H' H1 H2 : Hp} {σ σ1 σ2 σ0 : L2.St} {ρ ρ0 ρ1 ρ2 : En} {pn pn' : Nat → Bool} {v x : V} {d : D} {W : WX} {D : Ends}
/-- the slots stay: any pins -/
theorem Stp.wk (s : Stp pn' σ ρ F H σ ρ1 F1 H1) : Stp pn σ ρ F H σ ρ1 F1 H1 := ⟨s.mono, s.keep, s.free, s.own, fun _ _ => rfl, s.thr, rfl⟩
theorem PstS.from {o : Ou Fl} {F0 H0 : Hp} (st : Stp pn σ0 ρ0 F0 H0 σ ρ F H) (h : PstS K cl pn W D σ0 ρ0 F0 H0 o) : PstS K cl pn W D σ ρ F H o := by
  cases o with
  | ok f ρ' =>
    cases f with
    | nx => exact fun σ' F' H' S' s' => h σ' F' H' S' (st.trans s')
    | bk => exact fun σ' F' H' S' s' => h σ' F' H' S' (st.trans s')
    | ct => exact fun σ' F' H' S' s' => h σ' F' H' S' (st.trans s')
    | rt r => exact fun x σ' F' H' S' s' rr => h x σ' F' H' S' (st.trans s') (rr.from st)
  | er x ρ' => exact fun c d σ' F' H' S' s' r => h c d σ' F' H' S' (st.trans s') r
  | st => exact h
theorem PstG.from {Q : L2.St → Hp → Prop} {o : Ou Unit} {F0 H0 : Hp} (st : Stp pn σ0 ρ0 F0 H0 σ ρ F H) (h : PstG K cl pn W Q σ0 ρ0 F0 H0 o) : PstG K cl pn W Q σ ρ F H o := by
  cases o with
  | ok f ρ' => exact fun σ' F' H' S' s' => h σ' F' H' S' (st.trans s')
  | er x ρ' => exact fun c d σ' F' H' S' s' r => h c d σ' F' H' S' (st.trans s') r
  | st => exact h

/-! ### blocks -/
def sSeq (a b : En → Ou Fl) : En → Ou Fl := fun ρ => (a ρ).bn fun f ρ1 => match f with
  | .nx => b ρ1
  | f => .ok f ρ1
def sNil : En → Ou Fl := fun ρ => .ok .nx ρ
theorem ev_seq {t u : TS} {a b : En → Ou Fl} (ha : EvS K cl pn W t a) (hb : EvS K cl pn W u b) : EvS K cl pn W (tSeq t u) (sSeq a b) := by
  intro F σ H ρ D S q
  refine ha F σ H ρ { D with nx := u D } S ?_
  unfold sSeq at q
  cases e : a ρ with
  | st => rw [e] at q; exact q
  | er x ρ' => rw [e] at q; exact q
  | ok f ρ' =>
    rw [e, Ou.bn_ok] at q
    cases f with
    | nx => exact fun σ' F' H' S' s' => hb F' σ' H' ρ' D S' (PstS.from s' q)
    | bk => exact q
    | ct => exact q
    | rt r => exact q
theorem ev_nilS : EvS K cl pn W tNext sNil := fun F σ H ρ D S q => q σ F H S Stp.refl
end
section
variable {cl : Str → Option Addr} {pn : Nat → Bool} {X : Cx} {s : Stmt} {ss : List Stmt} {a b : En → Ou Fl} {pos : Pos} {e : Expr} {ex : En → Ou R}
theorem ess_nil : ESs cl pn X [] sNil := fun W tk => ⟨_, pss_nil, ev_nilS⟩
theorem ess_cons (h : ES cl pn X s a) (r : ESs cl pn X ss b) : ESs cl pn X (s :: ss) (sSeq a b) := fun W tk => let ⟨_, p, v⟩ := h W tk; let ⟨_, p2, v2⟩ := r W tk; ⟨_, pss_cons p p2, ev_seq v v2⟩
theorem ess_one (h : ES cl pn X s a) : ESs cl pn X [s] a := fun W tk => let ⟨_, p, v⟩ := h W tk; ⟨_, pss_one p, v⟩
/-- code that is never reached -/
def sNever : En → Ou Fl := fun _ => .st
theorem es_never : ES cl pn X s sNever := fun W tk => ⟨_, ps_never, fun _ _ _ _ _ _ q => q.elim⟩
def sBreak : En → Ou Fl := fun ρ => .ok .bk ρ
def sCont : En → Ou Fl := fun ρ => .ok .ct ρ
theorem es_pass : ES cl pn X (.Pass pos) sNil := fun W tk => ⟨_, ps_pass, ev_nilS⟩
theorem es_break : ES cl pn X (.Break pos) sBreak := fun W tk => ⟨_, ps_break, fun F σ H ρ D S q => q σ F H S Stp.refl⟩
theorem es_continue : ES cl pn X (.Continue pos) sCont := fun W tk => ⟨_, ps_continue, fun F σ H ρ D S q => q σ F H S Stp.refl⟩
def sDrop (ex : En → Ou R) : En → Ou Fl := fun ρ => (ex ρ).bn fun _ ρ1 => .ok .nx ρ1
theorem es_expr (h : EE cl X e ex) (hs : swapsWith e none pos.line X.env = pure false := by rfl) : ES cl pn X (.Expr e pos) (sDrop ex) := fun W tk => by
  obtain ⟨t, p, v⟩ := h W tk
  refine ⟨_, ps_expr p hs, fun F σ H ρ D S q => ?_⟩
  exact v.then (P := PstS X.K cl pn W D σ ρ F H) S q (fun z => z) (fun _ _ z c d F' H' S' s' er => z c d σ F' H' S' s'.wk er) fun r ρ1 q x F1 H1 S1 s1 rel => q σ F1 H1 S1 s1.wk
def sIf (t : En → Ou Bool) (a b : En → Ou Fl) : En → Ou Fl := fun ρ => (t ρ).bn fun c ρ1 => if c then a ρ1 else b ρ1
theorem es_if {c : Expr} {sa sb : List Stmt} {tx : En → Ou Bool} (hc : ET cl X c tx) (ha : ESs cl pn X sa a) (hb : ESs cl pn X sb b) : ES cl pn X (.If c sa sb pos) (sIf tx a b) := fun W tk => by
  obtain ⟨t, p, v⟩ := hc W tk
  obtain ⟨ta, pa, va⟩ := ha W tk
  obtain ⟨tb, pb, vb⟩ := hb W tk
  refine ⟨_, ps_if p pa pb, fun F σ H ρ D S q => ?_⟩
  refine v.then (P := PstS X.K cl pn W D σ ρ F H) S q (fun z => z) (fun _ _ z c d F' H' S' s' er => z c d σ F' H' S' s'.wk er) fun c ρ1 q F1 H1 S1 s1 => ?_
  cases c with
  | true => exact va F1 σ H1 ρ1 D S1 (PstS.from s1.wk q)
  | false => exact vb F1 σ H1 ρ1 D S1 (PstS.from s1.wk q)
end

/-! ### return -/
def mv (pn : Nat → Bool) (r : R) (ρ : En) : Option (R × En) := match r with
  | .s i => match ρ[i]? with
    | some (some (.v d)) => some (.v d, ρ)
    | some (some c) => if pn i then some (.v c.toD, ρ.set i (some (.v c.toD))) else some (.o c, ρ.set i none)
    | _ => none
  | r => some (r, ρ)
def sRet (pn : Nat → Bool) (ex : En → Ou R) : En → Ou Fl := fun ρ => (ex ρ).bn fun r ρ1 => match mv pn r ρ1 with
  | some (r, ρ2) => .ok (.rt r) ρ2
  | none => .st
def sRetN : En → Ou Fl := fun ρ => .ok (.rt (.v .non)) ρ
section
variable {K : PySem.W.Frag} {cl : Str → Option Addr} {F F' F1 F2 H H' H1 H2 : Hp} {σ σ1 σ2 σ0 : L2.St} {ρ ρ0 ρ1 ρ2 : En} {pn : Nat → Bool} {v x : V} {d : D} {W : WX} {D : Ends}
theorem get_set_some {α : Type} {l : List (Option α)} {i j : Nat} {c : Option α} {y : α} (h : (l.set i c)[j]? = some (some y)) : (i = j ∧ c = some y) ∨ (i ≠ j ∧ l[j]? = some (some y)) := by
  by_cases e : i = j
  · subst e
    by_cases hl : i < l.length
    · rw [List.getElem?_set_self hl] at h; exact .inl ⟨rfl, Option.some.inj h⟩
    · rw [List.getElem?_eq_none (by simpa using hl)] at h; cases h
  · rw [List.getElem?_set_ne e] at h
    exact .inr ⟨e, h⟩
/-- a slot forgotten -/
theorem Sta.forget (S : Sta K cl F σ H ρ) (i : Nat) : Sta K cl F σ H (ρ.set i none) := by
  refine ⟨S.sub, by rw [List.length_set]; exact S.len, fun j d h => ?_, fun j c h hc => ?_, fun j k cj ck p h1 h2 h3 h4 h5 h6 => ?_⟩
  · rcases get_set_some h with ⟨_, z⟩ | ⟨_, z⟩
    · cases z
    · exact S.val j d z
  · rcases get_set_some h with ⟨_, z⟩ | ⟨_, z⟩
    · cases z
    · exact S.own j c z hc
  · rcases get_set_some h1 with ⟨_, z⟩ | ⟨_, z⟩
    · cases z
    · rcases get_set_some h2 with ⟨_, z'⟩ | ⟨_, z'⟩
      · cases z'
      · exact S.sep j k cj ck p z z' h3 h4 h5 h6
theorem ownS_forget {i : Nat} {p : Addr} (h : OwnS σ (ρ.set i none) p) : OwnS σ ρ p ∧ ∀ c, ρ[i]? = some (some c) → c.own = true → (∀ (S : Sta K cl F σ H ρ), σ[i]? ≠ some (some (.ref p))) := by
  obtain ⟨j, c, h1, h2, h3⟩ := h
  rcases get_set_some h1 with ⟨_, z⟩ | ⟨ne, z⟩
  · cases z
  · exact ⟨⟨j, c, z, h2, h3⟩, fun c' hi hc' S e => ne (S.sep i j c' c p hi z hc' h2 e h3)⟩
theorem mv_ok {r r' : R} {F0 H0 : Hp} (S : Sta K cl F σ H ρ) (st : Stp pn σ0 ρ0 F0 H0 σ ρ F H) (s0 : Sub F0 H0) (h : RelR K cl σ0 ρ0 H0 σ ρ F H x r) (e : mv pn r ρ = some (r', ρ1)) :
    ∃ F', Sta K cl F' σ H ρ1 ∧ Stp pn σ0 ρ0 F0 H0 σ ρ1 F' H ∧ RelR K cl σ0 ρ0 H0 σ ρ1 F' H x r' := by
  cases r with
  | v d => cases e; exact ⟨F, S, st, h⟩
  | o c => cases e; exact ⟨F, S, st, h⟩
  | s i =>
    have h' : σ[i]? = some (some x) := h
    cases q : ρ[i]? with
    | none => simp only [mv, q] at e; cases e
    | some oc =>
      cases oc with
      | none => simp only [mv, q] at e; cases e
      | some c =>
        cases hc : c.own with
        | false =>
          cases c with
          | v d =>
            simp only [mv, q] at e; cases e
            obtain ⟨y, e1, e2⟩ := S.val i _ q
            rw [h'] at e1; cases e1
            exact ⟨F, S, st, e2⟩
          | _ => cases hc
        | true =>
          have e' : (if pn i = true then some (R.v c.toD, ρ.set i (some (.v c.toD))) else some (R.o c, ρ.set i none)) = some (r', ρ1) := by
            cases c with
            | v d => cases hc
            | _ => simp only [mv, q] at e; exact e
          obtain ⟨p, o, e1, e2, e3, e4⟩ := S.own i c q hc
          rw [h'] at e1; cases e1
          split at e'
          · cases e'
            exact ⟨upd F p o, freeze_slot S q hc h' e2 e3 e4, st.trans (stp_freeze_slot q hc h' e2), OwnAt.rep upd_same (e4.mono (mono_upd e2))⟩
          · cases e'
            have s1 : Stp pn σ ρ F H σ (ρ.set i none) F H := ⟨fun _ _ h => h, fun _ _ h _ => h, fun _ _ _ _ h => .inl h, fun z hz => .inl (ownS_forget (K := K) (cl := cl) (F := F) (H := H) hz).1, fun _ _ => rfl, fun _ o h => ⟨o, h⟩, rfl⟩
            refine ⟨F, S.forget i, st.trans s1, p, o, rfl, hc, e2, e3, e4, fun hz => (ownS_forget (K := K) (cl := cl) (F := F) (H := H) hz).2 c q hc S h', ?_⟩
            exact st.own p ⟨i, c, q, hc, h'⟩
theorem ev_ret {te : TE} {ex : En → Ou R} (h : EvE K cl W te ex) : EvS K cl pn W (tRet te) (sRet pn ex) := by
  intro F σ H ρ D S q
  refine h.then (P := PstS K cl pn W D σ ρ F H) S q (fun z => z) (fun _ _ z c d F' H' S' s' er => z c d σ F' H' S' s'.wk er) fun r ρ1 q x F1 H1 S1 s1 rel => ?_
  cases e : mv pn r ρ1 with
  | none => rw [e] at q; exact q.elim
  | some p =>
    obtain ⟨r', ρ2⟩ := p
    rw [e] at q
    obtain ⟨F2, S2, s2, rel2⟩ := mv_ok S1 s1.wk S.sub rel e
    exact q x σ F2 H1 S2 s2 rel2
end
section
variable {cl : Str → Option Addr} {pn : Nat → Bool} {X : Cx} {e : Expr} {ex : En → Ou R} {pos : Pos}
theorem es_ret (h : EE cl X e ex) : ES cl pn X (.Return (some e) pos) (sRet pn ex) := fun W tk => let ⟨_, p, v⟩ := h W tk; ⟨_, ps_ret p, ev_ret v⟩
theorem es_retN : ES cl pn X (.Return none pos) sRetN := fun W tk => ⟨_, ps_retN, fun F σ H ρ D S q => q .non σ F H S Stp.refl .non⟩
end

/-! ### storing at names -/
/-- what is stored: a thing of its own moves; another slot's thing is frozen -/
def rsv (r : R) (ρ : En) : Option (C × En) := match r with
  | .o c => some (c, ρ)
  | r => (toVal r ρ).map fun p => (.v p.1, p.2)
def sAsg (i : Nat) (ex : En → Ou R) : En → Ou Fl := fun ρ => (ex ρ).bn fun r ρ1 => match rsv r ρ1 with
  | some (c, ρ2) => .ok .nx (ρ2.set i (some c))
  | none => .st
def gNm (i : Nat) (d : D) (ρ : En) : Ou Unit := .ok () (ρ.set i (some (.v d)))
section
variable {K : PySem.W.Frag} {cl : Str → Option Addr} {F F' F1 F2 H H' H1 H2 : Hp} {σ σ1 σ2 σ0 : L2.St} {ρ ρ0 ρ1 ρ2 : En} {pn : Nat → Bool} {v x : V} {d : D} {W : WX} {D : Ends}
/-- a content stands for a value that is about to be stored -/
def CAt (K : PySem.W.Frag) (cl : Str → Option Addr) (σ : L2.St) (ρ : En) (F H : Hp) (x : V) (c : C) : Prop := match c with
  | .v d => Rep K cl F x d
  | c => ∃ p o, x = .ref p ∧ F p = none ∧ H p = some o ∧ OwnAt K cl F o c ∧ ¬ OwnS σ ρ p
theorem CAt.own {c : C} (h : CAt K cl σ ρ F H x c) (hc : c.own = true) : ∃ p o, x = .ref p ∧ F p = none ∧ H p = some o ∧ OwnAt K cl F o c ∧ ¬ OwnS σ ρ p := by
  cases c with
  | v d => cases hc
  | _ => exact h
theorem ownS_store {i : Nat} {c : C} {p : Addr} (h : OwnS (σ.set i (some x)) (ρ.set i (some c)) p) (hl : ρ.length = σ.length) : OwnS σ ρ p ∨ (x = .ref p ∧ c.own = true) := by
  obtain ⟨j, c', h1, h2, h3⟩ := h
  rcases get_set_some h1 with ⟨e, z⟩ | ⟨ne, z⟩
  · subst e
    cases z
    rcases get_set_some h3 with ⟨_, z'⟩ | ⟨ne, _⟩
    · cases z'; exact .inr ⟨rfl, h2⟩
    · exact absurd rfl ne
  · rw [List.getElem?_set_ne ne] at h3
    exact .inl ⟨j, c', z, h2, h3⟩
theorem Sta.store {i : Nat} {c : C} (S : Sta K cl F σ H ρ) (h : CAt K cl σ ρ F H x c) : Sta K cl F (σ.set i (some x)) H (ρ.set i (some c)) := by
  have hl : ∀ {j : Nat} {c' : C}, (ρ.set i (some c))[j]? = some (some c') → i = j → i < σ.length := fun {j c'} h e => by
    subst e
    rw [← S.len]
    have := (List.getElem?_eq_some_iff.mp h).1
    simpa using this
  refine ⟨S.sub, by simp [S.len], fun j d hj => ?_, fun j c' hj hc => ?_, fun j k cj ck p h1 h2 h3 h4 h5 h6 => ?_⟩
  · rcases get_set_some hj with ⟨e, z⟩ | ⟨ne, z⟩
    · have := hl hj e
      subst e
      cases z
      exact ⟨x, by rw [List.getElem?_set_self this], h⟩
    · rw [List.getElem?_set_ne ne]
      exact S.val j d z
  · rcases get_set_some hj with ⟨e, z⟩ | ⟨ne, z⟩
    · have := hl hj e
      subst e
      cases z
      obtain ⟨p, o, rfl, e1, e2, e3, _⟩ := h.own hc
      exact ⟨p, o, by rw [List.getElem?_set_self this], e1, e2, e3⟩
    · rw [List.getElem?_set_ne ne]
      exact S.own j c' z hc
  · have key : ∀ {a b : Nat} {ca cb : C}, i = a → i ≠ b → c = ca → ca.own = true → ρ[b]? = some (some cb) → cb.own = true → (σ.set i (some x))[a]? = some (some (.ref p)) → (σ.set i (some x))[b]? = some (some (.ref p)) → False :=
      fun {a b ca cb} ea nb ec h3 z h4 h5 h6 => by
        subst ea; subst ec
        obtain ⟨q, o, rfl, _, _, _, hn⟩ := h.own h3
        rcases get_set_some h5 with ⟨_, z5⟩ | ⟨ne, _⟩
        · cases z5
          rw [List.getElem?_set_ne nb] at h6
          exact hn ⟨b, cb, z, h4, h6⟩
        · exact absurd rfl ne
    rcases get_set_some h1 with ⟨e, z⟩ | ⟨ne, z⟩
    · rcases get_set_some h2 with ⟨e', z'⟩ | ⟨ne', z'⟩
      · rw [← e, ← e']
      · cases z; exact (key e ne' rfl h3 z' h4 h5 h6).elim
    · rcases get_set_some h2 with ⟨e', z'⟩ | ⟨ne', z'⟩
      · cases z'; exact (key e' ne rfl h4 z h3 h6 h5).elim
      · rw [List.getElem?_set_ne ne] at h5
        rw [List.getElem?_set_ne ne'] at h6
        exact S.sep j k cj ck p z z' h3 h4 h5 h6
/-- .. as a step; s0: how the thing came -/
theorem Stp.store {i : Nat} {c : C} {F0 H0 : Hp} (st : Stp pn σ0 ρ0 F0 H0 σ ρ F H) (hl : ρ.length = σ.length) (hp : pn i = false) (h : ∀ p, x = .ref p → c.own = true → OwnS σ0 ρ0 p ∨ H0 p = none) : Stp pn σ0 ρ0 F0 H0 (σ.set i (some x)) (ρ.set i (some c)) F H := by
  refine ⟨st.mono, st.keep, st.free, fun p q => ?_, fun j hj => ?_, st.thr, by rw [List.length_set]; exact st.len⟩
  · rcases ownS_store q hl with z | ⟨e, hc⟩
    · exact st.own p z
    · exact h p e hc
  · have ne : i ≠ j := fun e => by rw [e, hj] at hp; cases hp
    rw [List.getElem?_set_ne ne]
    exact st.pin j hj
theorem rsv_ok {r : R} {c : C} {F0 H0 : Hp} (S : Sta K cl F σ H ρ) (st : Stp pn σ0 ρ0 F0 H0 σ ρ F H) (s0 : Sub F0 H0) (h : RelR K cl σ0 ρ0 H0 σ ρ F H x r) (e : rsv r ρ = some (c, ρ1)) :
    ∃ F', Sta K cl F' σ H ρ1 ∧ Stp pn σ0 ρ0 F0 H0 σ ρ1 F' H ∧ CAt K cl σ ρ1 F' H x c ∧ ∀ p, x = .ref p → c.own = true → OwnS σ0 ρ0 p ∨ H0 p = none := by
  have val : ∀ {r : R}, RelR K cl σ0 ρ0 H0 σ ρ F H x r → (toVal r ρ).map (fun p => (C.v p.1, p.2)) = some (c, ρ1) → ∃ F', Sta K cl F' σ H ρ1 ∧ Stp pn σ0 ρ0 F0 H0 σ ρ1 F' H ∧ CAt K cl σ ρ1 F' H x c ∧ ∀ p, x = .ref p → c.own = true → OwnS σ0 ρ0 p ∨ H0 p = none := fun {r} h e => by
    obtain ⟨⟨d, ρ2⟩, e1, e2⟩ := Option.map_eq_some_iff.mp e
    cases e2
    obtain ⟨F', S', s', rp⟩ := toVal_ok S st s0 h e1
    exact ⟨F', S', s', rp, fun p _ z => by cases z⟩
  cases r with
  | v d => exact val h e
  | s i => exact val h e
  | o c' =>
    cases e
    obtain ⟨p, o, rfl, ho, hf, hh, ha, hn, hs⟩ := h
    refine ⟨F, S, st, ?_, fun q e _ => by cases e; exact hs⟩
    cases c with
    | v d => cases ho
    | _ => exact ⟨p, o, rfl, hf, hh, ha, hn⟩
theorem ev_asg {te : TE} {ex : En → Ou R} {i : Nat} (hp : pn i = false) (h : EvE K cl W te ex) : EvS K cl pn W (tAsg te (gName i)) (sAsg i ex) := by
  intro F σ H ρ D S q
  refine h.then (P := PstS K cl pn W D σ ρ F H) S q (fun z => z) (fun _ _ z c d F' H' S' s' er => z c d σ F' H' S' s'.wk er) fun r ρ1 q x F1 H1 S1 s1 rel => ?_
  cases e : rsv r ρ1 with
  | none => rw [e] at q; exact q.elim
  | some p =>
    obtain ⟨c, ρ2⟩ := p
    rw [e] at q
    obtain ⟨F2, S2, s2, ca, cn⟩ := rsv_ok S1 (s1.wk (pn := pn)) S.sub rel e
    exact q _ F2 H1 (S2.store ca) (s2.store S2.len hp cn)
theorem ev_gnm {i : Nat} (hp : pn i = false) : EvG K cl pn W (gName i) (gNm i) := fun F σ H ρ x d Q S r q => q _ F H (S.store r) (Stp.refl.store S.len hp fun _ _ z => by cases z)
end
section
variable {cl : Str → Option Addr} {pn : Nat → Bool} {X : Cx} {e : Expr} {ex : En → Ou R} {pos pos' : Pos}
theorem es_set (i : Nat) {x : Str} (hN : X.N.Nodup) (he : EE cl X e ex) (hp : pn i = false := by rfl) (hi : X.N[i]? = some x := by rfl) (hx : Loc X.env.scope x := by first | exact Or.inl rfl | exact Or.inr rfl) (hs : swapsWith e (some (.Name x pos')) pos.line X.env = pure false := by rfl)
    (hf : X.fn x = true ∨ X.env.scope.names.lookup x = some .local := by first | exact .inl rfl | exact .inr rfl) : ES cl pn X (.Assign [.Name x pos'] e pos) (sAsg i ex) := fun W tk => let ⟨_, p, v⟩ := he W tk; ⟨_, ps_set hN hi hx p hs hf, ev_asg hp v⟩
theorem eg_name (i : Nat) {x : Str} (hN : X.N.Nodup) (hp : pn i = false := by rfl) (hi : X.N[i]? = some x := by rfl) (hx : Loc X.env.scope x := by first | exact Or.inl rfl | exact Or.inr rfl)
    (hf : X.fn x = true ∨ X.env.scope.names.lookup x = some .local := by first | exact .inl rfl | exact .inr rfl) : EG cl pn X (.Name x pos) (gNm i) := fun W tk => ⟨_, pg_name hN hi hx hf, ev_gnm hp⟩
end

/-! ### tuple targets -/
def gsNil (ds : List D) (ρ : En) : Ou Unit := match ds with
  | [] => .ok () ρ
  | _ => .st
def gsCons (g : D → En → Ou Unit) (gs : List D → En → Ou Unit) (ds : List D) (ρ : En) : Ou Unit := match ds with
  | d :: ds => (g d ρ).bn fun _ ρ1 => gs ds ρ1
  | [] => .st
def gTp (n : Nat) (gs : List D → En → Ou Unit) (d : D) (ρ : En) : Ou Unit := match d with
  | .tup ds => if ds.length = n then gs ds ρ else .st
  | _ => .st
section
variable {K : PySem.W.Frag} {cl : Str → Option Addr} {pn : Nat → Bool} {W : WX}
def EvGs (K : PySem.W.Frag) (cl : Str → Option Addr) (pn : Nat → Bool) (W : WX) (g : TGs) (gx : List D → En → Ou Unit) : Prop := ∀ F σ H ρ xs ds Q, Sta K cl F σ H ρ → RepL K cl F xs ds → PstG K cl pn W Q σ ρ F H (gx ds ρ) → g xs σ H Q
theorem ev_gsNil : EvGs K cl pn W gNil gsNil := fun F σ H ρ xs ds Q S r q => by
  cases ds with
  | nil =>
    have : xs = [] := List.eq_nil_of_length_eq_zero r.1
    exact ⟨this, q σ F H S Stp.refl⟩
  | cons => exact q.elim
theorem ev_gsCons {g : TG} {gs : TGs} {gx : D → En → Ou Unit} {gxs : List D → En → Ou Unit} (h : EvG K cl pn W g gx) (hs : EvGs K cl pn W gs gxs) : EvGs K cl pn W (gCons g gs) (gsCons gx gxs) := fun F σ H ρ xs ds Q S r q => by
  cases ds with
  | nil => exact q.elim
  | cons d ds =>
    cases xs with
    | nil => have := r.1; simp at this
    | cons x xs =>
      refine ⟨x, xs, rfl, h F σ H ρ x d _ S (r.2 0 x d rfl rfl) ?_⟩
      have r' : RepL K cl F xs ds := ⟨by have := r.1; simpa using this, fun i x e a b => r.2 (i + 1) x e (by simpa using a) (by simpa using b)⟩
      have q : PstG K cl pn W Q σ ρ F H ((gx d ρ).bn fun _ ρ1 => gxs ds ρ1) := q
      cases e : gx d ρ with
      | st => rw [e] at q; exact q.elim
      | er y ρ' => rw [e] at q; exact q
      | ok u ρ' =>
        rw [e] at q
        exact fun σ1 F1 H1 S1 s1 => hs F1 σ1 H1 ρ' xs ds Q S1 (r'.mono s1.mono) (PstG.from s1 q)
theorem ev_gTup {n : Nat} {gs : TGs} {gxs : List D → En → Ou Unit} (hs : EvGs K cl pn W gs gxs) : EvG K cl pn W (gTup K n gs) (gTp n gxs) := fun F σ H ρ x d Q S r q => by
  cases d with
  | tup ds =>
    obtain ⟨_, a, vs, rfl, ha, _, rr⟩ := Rep.pk S.sub r
    have q : PstG K cl pn W Q σ ρ F H (if ds.length = n then gxs ds ρ else .st) := q
    by_cases h : ds.length = n
    · rw [if_pos h] at q
      exact ⟨a, vs, rfl, ha, by rw [rr.1]; exact h, hs F σ H ρ vs ds Q S rr q⟩
    · rw [if_neg h] at q; exact q.elim
  | _ => exact q.elim
end
section
variable {cl : Str → Option Addr} {pn : Nat → Bool} {X : Cx} {e : Expr} {es : List Expr} {g : D → En → Ou Unit} {gs : List D → En → Ou Unit} {pos : Pos}
def EGs (cl : Str → Option Addr) (pn : Nat → Bool) (X : Cx) (tgs : List Expr) (gx : List D → En → Ou Unit) : Prop := ∀ W, Takes X W → ∃ g, PGs X tgs g ∧ EvGs X.K cl pn W g gx
theorem egs_nil : EGs cl pn X [] gsNil := fun W tk => ⟨_, pgs_nil, ev_gsNil⟩
theorem egs_cons (h : EG cl pn X e g) (r : EGs cl pn X es gs) (hs : (assignEach (e :: es) X.env).map (·.2) = assign e X.env :: (assignEach es X.env).map (·.2) := by rfl) : EGs cl pn X (e :: es) (gsCons g gs) := fun W tk =>
  let ⟨_, p, v⟩ := h W tk; let ⟨_, p2, v2⟩ := r W tk; ⟨_, pgs_cons p p2 hs, ev_gsCons v v2⟩
theorem eg_tup {k n : Nat} (hc : X.calm = true) (h : EGs cl pn X es gs) (hn : (assignEach es X.env).length = n := by rfl) (hst : (assignEach es X.env).findIdx? (·.1) = none := by rfl) : EG cl pn X (.Tuple es k pos) (gTp n gs) := fun W tk =>
  let ⟨_, p, v⟩ := h W tk; ⟨_, pg_tup hc p hn hst, ev_gTup v⟩
/-- target = value, the value frozen -/
def sAsgG (ex : En → Ou R) (g : D → En → Ou Unit) : En → Ou Fl := fun ρ => (vl ex ρ).bn fun d ρ1 => (g d ρ1).bn fun _ ρ2 => .ok .nx ρ2
theorem ev_asgG {K : PySem.W.Frag} {W : WX} {te : TE} {tg : TG} {ex : En → Ou R} (h : EvE K cl W te ex) (hg : EvG K cl pn W tg g) : EvS K cl pn W (tAsg te tg) (sAsgG ex g) := by
  intro F σ H ρ D S q
  refine h.val.then (P := PstS K cl pn W D σ ρ F H) S q (fun z => z) (fun _ _ z c d F' H' S' s' er => z c d σ F' H' S' s'.wk er) fun d ρ1 q x F1 H1 S1 s1 rel => ?_
  refine hg F1 σ H1 ρ1 x d D.nx S1 rel ?_
  cases e : g d ρ1 with
  | st => rw [e] at q; exact q.elim
  | er y ρ' => rw [e] at q; exact fun c d σ' F' H' S' s' er => q c d σ' F' H' S' (s1.wk.trans s') er
  | ok u ρ' => rw [e] at q; exact fun σ' F' H' S' s' => q σ' F' H' S' (s1.wk.trans s')
theorem es_asg {tg : Expr} {ex : En → Ou R} (he : EE cl X e ex) (hg : EG cl pn X tg g) (hs : swapsWithSole [tg] e pos.line X.env = pure false := by rfl) (hw : swappedStores [tg] e X.env = pure none := by rfl)
    (h1 : (assignEach [tg] X.env).map (·.2) = [assign tg X.env] := by rfl) : ES cl pn X (.Assign [tg] e pos) (sAsgG ex g) := fun W tk => let ⟨_, p, v⟩ := he W tk; let ⟨_, p2, v2⟩ := hg W tk; ⟨_, ps_asg p p2 hs hw h1, ev_asgG v v2⟩
end
end Dm
end TxtDm6

section TxtDm7
set_option Elab.async false
set_option linter.all false
set_option maxRecDepth 100000
/-! Dm7: a, b = x, y; what is walked; for, while; comprehensions. -/
namespace Dm
open PySem PySem.Spec PyProof.Rows L2

/-! ### a, b, .. = x, y, .. : each thing moves -/
def rsR (r : R) (ρ : En) : Option (R × En) := match r with
  | .o c => some (.o c, ρ)
  | r => (toVal r ρ).map fun p => (.v p.1, p.2)
def mNil : En → Ou (List R) := fun ρ => .ok [] ρ
def mCons (e : En → Ou R) (r : En → Ou (List R)) : En → Ou (List R) := fun ρ => (e ρ).bn fun a ρ1 => match rsR a ρ1 with
  | some (a, ρ2) => (r ρ2).bn fun as ρ3 => .ok (a :: as) ρ3
  | none => .st
def R.con : R → C
  | .v d => .v d
  | .o c => c
  | .s _ => .v .non
def stores : List Nat → List R → En → En
  | i :: is, r :: rs, ρ => stores is rs (ρ.set i (some r.con))
  | _, _, ρ => ρ
def storeV : List Nat → List V → L2.St → L2.St
  | i :: is, v :: vs, σ => storeV is vs (σ.set i (some v))
  | _, _, σ => σ
def sMul (is : List Nat) (a : En → Ou (List R)) : En → Ou Fl := fun ρ => (a ρ).bn fun rs ρ1 => if rs.length = is.length then .ok .nx (stores is rs ρ1) else .st
section
variable {K : PySem.W.Frag} {cl : Str → Option Addr} {F F' F1 F2 H H' H1 H2 H0 : Hp} {σ σ1 σ2 σ0 : L2.St} {ρ ρ0 ρ1 ρ2 : En} {pn : Nat → Bool} {v x : V} {d : D} {W : WX}
/-- contents in a row, things of their own apart -/
inductive Cs (K : PySem.W.Frag) (cl : Str → Option Addr) (σ0 : L2.St) (ρ0 : En) (H0 : Hp) (σ : L2.St) (ρ : En) (F H : Hp) : List V → List R → Prop
  | nil : Cs K cl σ0 ρ0 H0 σ ρ F H [] []
  | v {x : V} {d : D} {xs : List V} {rs : List R} (h : Rep K cl F x d) (r : Cs K cl σ0 ρ0 H0 σ ρ F H xs rs) : Cs K cl σ0 ρ0 H0 σ ρ F H (x :: xs) (.v d :: rs)
  | o {p : Addr} {o : HO} {c : C} {xs : List V} {rs : List R} (hc : c.own = true) (hf : F p = none) (hh : H p = some o) (ha : OwnAt K cl F o c) (hn : ¬ OwnS σ ρ p) (hs : OwnS σ0 ρ0 p ∨ H0 p = none)
      (ap : ∀ (i : Nat) c', rs[i]? = some (.o c') → xs[i]? ≠ some (.ref p)) (r : Cs K cl σ0 ρ0 H0 σ ρ F H xs rs) : Cs K cl σ0 ρ0 H0 σ ρ F H (.ref p :: xs) (.o c :: rs)
theorem Cs.length {xs : List V} {rs : List R} (h : Cs K cl σ0 ρ0 H0 σ ρ F H xs rs) : xs.length = rs.length := by
  induction h with
  | nil => rfl
  | v h r ih => simp [ih]
  | o hc hf hh ha hn hs ap r ih => simp [ih]
theorem Cs.step {xs : List V} {rs : List R} (h : Cs K cl σ0 ρ0 H0 σ ρ F H xs rs) (s : Stp pn σ ρ F H σ ρ1 F1 H1) : Cs K cl σ0 ρ0 H0 σ ρ1 F1 H1 xs rs := by
  induction h with
  | nil => exact .nil
  | v h r ih => exact .v (h.mono s.mono) ih
  | o hc hf hh ha hn hs ap r ih =>
    refine .o hc ((s.free _ _ hh hn hf).resolve_right (ha.ns hc)) (s.keep _ _ hh hn) (ha.mono s.mono) (fun q => ?_) hs ap ih
    rcases s.own _ q with z | z
    · exact hn z
    · rw [hh] at z; cases z
theorem Cs.from {xs : List V} {rs : List R} {σa : L2.St} {ρa : En} {Fa Ha F0 : Hp} (h : Cs K cl σ0 ρ0 H0 σ ρ F H xs rs) (s : Stp pn σa ρa Fa Ha σ0 ρ0 F0 H0) : Cs K cl σa ρa Ha σ ρ F H xs rs := by
  induction h with
  | nil => exact .nil
  | v h r ih => exact .v h ih
  | o hc hf hh ha hn hs ap r ih =>
    refine .o hc hf hh ha hn ?_ ap ih
    rcases hs with z | z
    · exact s.own _ z
    · exact .inr (s.non0 z)
/-- a thing that came before the row was made is in no place of it -/
theorem Cs.apart {xs : List V} {rs : List R} {p : Addr} {o : HO} (h : Cs K cl σ0 ρ0 H0 σ ρ F H xs rs) (hp : H0 p = some o) (hn : ¬ OwnS σ0 ρ0 p) : ∀ (i : Nat) c', rs[i]? = some (.o c') → xs[i]? ≠ some (.ref p) := by
  induction h with
  | nil => intro i c' e; simp at e
  | v h r ih =>
    intro i c' e
    cases i with
    | zero => simp at e
    | succ i => simpa using ih i c' (by simpa using e)
  | o hc hf hh ha hn' hs ap r ih =>
    intro i c' e
    cases i with
    | zero =>
      intro z
      simp at z
      subst z
      rcases hs with z | z
      · exact hn z
      · rw [hp] at z; cases z
    | succ i => simpa using ih i c' (by simpa using e)
def PstM (K : PySem.W.Frag) (cl : Str → Option Addr) (W : WX) (Q : List V → Hp → Prop) (σ : L2.St) (ρ : En) (F H : Hp) : Ou (List R) → Prop
  | .ok rs ρ' => ∀ xs F' H', Sta K cl F' σ H' ρ' → Stp (fun _ => true) σ ρ F H σ ρ' F' H' → Cs K cl σ ρ H σ ρ' F' H' xs rs → Q xs H'
  | .er e ρ' => ∀ c d F' H', Sta K cl F' σ H' ρ' → Stp (fun _ => true) σ ρ F H σ ρ' F' H' → ErrOk K cl F' e c d → W c d σ H'
  | .st => False
def EvM (K : PySem.W.Frag) (cl : Str → Option Addr) (W : WX) (tt : TA) (ex : En → Ou (List R)) : Prop := ∀ F σ H ρ Q, Sta K cl F σ H ρ → PstM K cl W Q σ ρ F H (ex ρ) → tt σ H Q
theorem ev_mNil : EvM K cl W tNil mNil := fun F σ H ρ Q S q => q [] F H S Stp.refl .nil
theorem rsR_ok {r r' : R} {F0 H0 : Hp} (S : Sta K cl F σ H ρ) (st : Stp pn σ0 ρ0 F0 H0 σ ρ F H) (s0 : Sub F0 H0) (h : RelR K cl σ0 ρ0 H0 σ ρ F H x r) (e : rsR r ρ = some (r', ρ1)) :
    ∃ F', Sta K cl F' σ H ρ1 ∧ Stp pn σ0 ρ0 F0 H0 σ ρ1 F' H ∧ ((∃ d, r' = .v d ∧ Rep K cl F' x d) ∨ ∃ c p o, r' = .o c ∧ x = .ref p ∧ c.own = true ∧ F' p = none ∧ H p = some o ∧ OwnAt K cl F' o c ∧ ¬ OwnS σ ρ1 p ∧ (OwnS σ0 ρ0 p ∨ H0 p = none)) := by
  have val : ∀ {r : R}, RelR K cl σ0 ρ0 H0 σ ρ F H x r → (toVal r ρ).map (fun p => (R.v p.1, p.2)) = some (r', ρ1) → ∃ F', Sta K cl F' σ H ρ1 ∧ Stp pn σ0 ρ0 F0 H0 σ ρ1 F' H ∧ ∃ d, r' = .v d ∧ Rep K cl F' x d := fun {r} h e => by
    obtain ⟨⟨d, ρ2⟩, e1, e2⟩ := Option.map_eq_some_iff.mp e
    cases e2
    obtain ⟨F', S', s', rp⟩ := toVal_ok S st s0 h e1
    exact ⟨F', S', s', d, rfl, rp⟩
  cases r with
  | v d => obtain ⟨F', a, b, c⟩ := val h e; exact ⟨F', a, b, .inl c⟩
  | s i => obtain ⟨F', a, b, c⟩ := val h e; exact ⟨F', a, b, .inl c⟩
  | o c' =>
    cases e
    obtain ⟨p, o, rfl, ho, hf, hh, ha, hn, hs⟩ := h
    exact ⟨F, S, st, .inr ⟨c', p, o, rfl, rfl, ho, hf, hh, ha, hn, hs⟩⟩
theorem ev_mCons {ta : TE} {tr : TA} {ea : En → Ou R} {er : En → Ou (List R)} (ha : EvE K cl W ta ea) (hr : EvM K cl W tr er) : EvM K cl W (tCons ta tr) (mCons ea er) := by
  intro F σ H ρ Q S q
  refine ha.then (P := PstM K cl W Q σ ρ F H) S q (fun z => z) (fun _ _ z => z) fun r ρ1 q x F1 H1 S1 s1 rel => ?_
  cases e : rsR r ρ1 with
  | none => rw [e] at q; exact q.elim
  | some p =>
    obtain ⟨r', ρ2⟩ := p
    rw [e] at q
    simp only at q
    obtain ⟨F2, S2, s2, cs⟩ := rsR_ok S1 s1 S.sub rel e
    refine hr F2 σ H1 ρ2 _ S2 ?_
    cases e2 : er ρ2 with
    | st => rw [e2] at q; exact q
    | er y ρ' => rw [e2] at q; exact fun c d F' H' S' s' er => q c d F' H' S' (s2.trans s') er
    | ok rs ρ3 =>
      rw [e2, Ou.bn_ok] at q
      intro xs F3 H3 S3 s3 cc
      refine q (x :: xs) F3 H3 S3 (s2.trans s3) ?_
      rcases cs with ⟨d, rfl, rp⟩ | ⟨c, p, o, rfl, rfl, h1, h2, h3, h4, h5, h6⟩
      · exact .v (rp.mono s3.mono) (cc.from s2)
      · refine .o h1 ((s3.free _ _ h3 h5 h2).resolve_right (h4.ns h1)) (s3.keep _ _ h3 h5) (h4.mono s3.mono) (fun z => ?_) h6 (cc.apart h3 h5) (cc.from s2)
        rcases s3.own _ z with y | y
        · exact h5 y
        · rw [h3] at y; cases y
/-- all stored -/
theorem stores_ok {F0 H0 : Hp} : ∀ {is : List Nat} {xs : List V} {rs : List R} {σ : L2.St} {ρ : En}, Sta K cl F σ H ρ → Stp pn σ0 ρ0 F0 H0 σ ρ F H → Cs K cl σ0 ρ0 H0 σ ρ F H xs rs → (∀ i ∈ is, pn i = false) →
    Sta K cl F (storeV is xs σ) H (stores is rs ρ) ∧ Stp pn σ0 ρ0 F0 H0 (storeV is xs σ) (stores is rs ρ) F H
  | [], _, _, _, _, S, st, _, _ => ⟨S, st⟩
  | i :: is, _, _, σ, ρ, S, st, .nil, _ => ⟨S, st⟩
  | i :: is, _, _, σ, ρ, S, st, @Cs.v _ _ _ _ _ _ _ _ _ x d xs rs h r, hp => by
    have hp0 := hp i List.mem_cons_self
    have S1 : Sta K cl F (σ.set i (some x)) H (ρ.set i (some (.v d))) := S.store h
    have st1 := st.store (x := x) (c := .v d) S.len hp0 fun p _ z => by cases z
    refine stores_ok (is := is) (xs := xs) (rs := rs) (σ := σ.set i (some x)) (ρ := ρ.set i (some (.v d))) S1 st1 ?_ fun j hj => hp j (List.mem_cons_of_mem _ hj)
    clear S1 st1
    induction r with
    | nil => exact .nil
    | v h r ih => exact .v h (ih)
    | o hc hf hh ha hn hs ap r ih =>
      refine .o hc hf hh ha (fun q => ?_) hs ap ih
      rcases ownS_store q S.len with z | ⟨_, z⟩
      · exact hn z
      · cases z
  | i :: is, _, _, σ, ρ, S, st, @Cs.o _ _ _ _ _ _ _ _ _ p o c xs rs hc hf hh ha hn hs ap r, hp => by
    have hp0 := hp i List.mem_cons_self
    have ca : CAt K cl σ ρ F H (.ref p) c := by
      cases c with
      | v d => cases hc
      | _ => exact ⟨p, o, rfl, hf, hh, ha, hn⟩
    have S1 := S.store (i := i) ca
    have st1 := st.store (i := i) (x := .ref p) (c := c) S.len hp0 fun q e _ => by cases e; exact hs
    refine stores_ok (is := is) (xs := xs) (rs := rs) (σ := σ.set i (some (.ref p))) (ρ := ρ.set i (some c)) S1 st1 ?_ fun j hj => hp j (List.mem_cons_of_mem _ hj)
    clear S1 st1
    induction r with
    | nil => exact .nil
    | v h r ih => exact .v h (ih fun j c' e => by simpa using ap (j + 1) c' (by simpa using e))
    | o hc' hf' hh' ha' hn' hs' ap' r ih =>
      refine .o hc' hf' hh' ha' (fun q => ?_) hs' ap' (ih fun j c' e => by simpa using ap (j + 1) c' (by simpa using e))
      rcases ownS_store q S.len with z | ⟨z, _⟩
      · exact hn' z
      · exact ap 0 _ rfl (by simpa using z.symm)
theorem ev_mul {tr : TA} {er : En → Ou (List R)} {is : List Nat} {k : Ends → L2.St → List V → Hp → Prop} (ha : EvM K cl W tr er) (hp : ∀ i ∈ is, pn i = false)
    (hk : ∀ (D : Ends) σ xs H1, xs.length = is.length → (∀ H2, (H2 = H1 ∨ ∃ p, H1 p = none ∧ H2 = upd H1 p (.tup xs)) → D.nx (storeV is xs σ) H2) → k D σ xs H1) : EvS K cl pn W (fun D σ H => tr σ H (k D σ)) (sMul is er) := by
  intro F σ H ρ D S q
  refine ha F σ H ρ _ S ?_
  unfold sMul at q
  cases e : er ρ with
  | st => rw [e] at q; exact q
  | er y ρ' => rw [e] at q; exact fun c d F' H' S' s' er => q c d σ F' H' S' s'.wk er
  | ok rs ρ1 =>
    rw [e, Ou.bn_ok] at q
    intro xs F1 H1 S1 s1 cs
    by_cases h : rs.length = is.length
    · rw [if_pos h] at q
      refine hk D σ xs H1 (by rw [cs.length]; exact h) fun H2 h2 => ?_
      rcases h2 with rfl | ⟨p, n, rfl⟩
      · obtain ⟨S2, s2⟩ := stores_ok S1 (s1.wk (pn := pn)) cs hp
        exact q _ F1 H2 S2 s2
      · have g : Grow F1 H1 F1 (upd H1 p (.tup xs)) := Grow.new S1.sub n
        obtain ⟨S2, s2⟩ := stores_ok (g.sta S1) ((s1.wk (pn := pn)).trans g.stp) (cs.step (pn := pn) g.stp) hp
        exact q _ F1 _ S2 s2
    · rw [if_neg h] at q; exact q.elim
end
section
variable {cl : Str → Option Addr} {pn : Nat → Bool} {X : Cx} {e : Expr} {es : List Expr} {ex : En → Ou R} {ms : En → Ou (List R)} {pos : Pos}
def EM (cl : Str → Option Addr) (X : Cx) (es : List Expr) (ex : En → Ou (List R)) : Prop := ∀ W, Takes X W → ∃ t, PA X es t ∧ EvM X.K cl W t ex
theorem em_nil : EM cl X [] mNil := fun W tk => ⟨_, pa_nil, ev_mNil⟩
theorem em_cons (ha : EE cl X e ex) (hr : EM cl X es ms) (hs : starEach (e :: es) X.env = (false, eval e X.env) :: starEach es X.env := by rfl) : EM cl X (e :: es) (mCons ex ms) := fun W tk =>
  let ⟨_, p, v⟩ := ha W tk; let ⟨_, p1, v1⟩ := hr W tk; ⟨_, pa_cons p p1 hs, ev_mCons v v1⟩
/-- two plain locals -/
theorem es_par2 (i j : Nat) {x y : Str} {a b : Expr} {px py pt : Pos} {kt k2 pt2} (hc : X.calm = true) (hN : X.N.Nodup) (ha : EM cl X [a, b] ms) (hpi : pn i = false := by rfl) (hpj : pn j = false := by rfl) (hi : X.N[i]? = some x := by rfl) (hj : X.N[j]? = some y := by rfl) (hij : i ≠ j := by decide)
    (hx : X.env.scope.names.lookup x = some .local := by rfl) (hy : X.env.scope.names.lookup y = some .local := by rfl)
    (hw : swappedStores [.Tuple [.Name x px, .Name y py] kt pt] (.Tuple [a, b] k2 pt2) X.env = pure (some [x, y]) := by rfl)
    (hs : swapsWithSole [.Tuple [.Name x px, .Name y py] kt pt] (.Tuple [a, b] k2 pt2) pos.line X.env = pure false := by rfl) :
    ES cl pn X (.Assign [.Tuple [.Name x px, .Name y py] kt pt] (.Tuple [a, b] k2 pt2) pos) (sMul [i, j] ms) := fun W tk => by
  obtain ⟨t, p, v⟩ := ha W tk
  refine ⟨_, ps_par hc hN hi hj hij hx hy p hw hs, ev_mul (k := fun D σ vs H1 => ∃ v w, vs = [v, w] ∧ D.nx ((σ.set i (some v)).set j (some w)) H1) v (fun k hk => ?_) fun D σ xs H1 hl h => ?_⟩
  · rcases List.mem_cons.mp hk with rfl | hk
    · exact hpi
    · rw [List.mem_singleton] at hk; subst hk; exact hpj
  · match xs, hl with
    | [v, w], _ => exact ⟨v, w, rfl, h H1 (.inl rfl)⟩
/-- three -/
theorem es_par3 (i j l : Nat) {x y z : Str} {a b c : Expr} {px py pz pt : Pos} {kt k2 pt2} (hc : X.calm = true) (hN : X.N.Nodup) (ha : EM cl X [a, b, c] ms) (hpi : pn i = false := by rfl) (hpj : pn j = false := by rfl) (hpl : pn l = false := by rfl)
    (hi : X.N[i]? = some x := by rfl) (hj : X.N[j]? = some y := by rfl) (hl : X.N[l]? = some z := by rfl) (hij : i ≠ j := by decide) (hil : i ≠ l := by decide) (hjl : j ≠ l := by decide)
    (hx : X.env.scope.names.lookup x = some .local := by rfl) (hy : X.env.scope.names.lookup y = some .local := by rfl) (hz : X.env.scope.names.lookup z = some .local := by rfl)
    (hw : swappedStores [.Tuple [.Name x px, .Name y py, .Name z pz] kt pt] (.Tuple [a, b, c] k2 pt2) X.env = pure (some [x, y, z]) := by rfl)
    (hs : swapsWithSole [.Tuple [.Name x px, .Name y py, .Name z pz] kt pt] (.Tuple [a, b, c] k2 pt2) pos.line X.env = pure false := by rfl) :
    ES cl pn X (.Assign [.Tuple [.Name x px, .Name y py, .Name z pz] kt pt] (.Tuple [a, b, c] k2 pt2) pos) (sMul [i, j, l] ms) := fun W tk => by
  obtain ⟨t, p, v⟩ := ha W tk
  refine ⟨_, ps_par3 hc hN hi hj hl hij hil hjl hx hy hz p hw hs, ev_mul (k := fun D σ vs H1 => ∃ u v w, vs = [u, v, w] ∧ D.nx (((σ.set i (some u)).set j (some v)).set l (some w)) H1) v (fun k hk => ?_) fun D σ xs H1 hl h => ?_⟩
  · rcases List.mem_cons.mp hk with rfl | hk
    · exact hpi
    · rcases List.mem_cons.mp hk with rfl | hk
      · exact hpj
      · rw [List.mem_singleton] at hk; subst hk; exact hpl
  · match xs, hl with
    | [u, v, w], _ => exact ⟨u, v, w, rfl, h H1 (.inl rfl)⟩
/-- names in a row, by their slots -/
def EN' (X : Cx) (is : List Nat) (tgs : List Expr) : Prop := ∃ gs, PGs X tgs gs ∧ ∀ xs σ H Q, xs.length = is.length → Q (storeV is xs σ) H → gs xs σ H Q
theorem en_nil : EN' X [] [] := ⟨_, pgs_nil, fun xs σ H Q h q => by
  have : xs = [] := List.eq_nil_of_length_eq_zero h
  subst this
  exact ⟨rfl, q⟩⟩
theorem en_cons (i : Nat) {is : List Nat} {x : Str} {tgs : List Expr} (hN : X.N.Nodup) (r : EN' X is tgs) (hi : X.N[i]? = some x := by rfl) (hx : Loc X.env.scope x := by first | exact Or.inl rfl | exact Or.inr rfl)
    (hf : X.fn x = true ∨ X.env.scope.names.lookup x = some .local := by first | exact .inl rfl | exact .inr rfl) (hs : (assignEach (.Name x pos :: tgs) X.env).map (·.2) = assign (.Name x pos) X.env :: (assignEach tgs X.env).map (·.2) := by rfl) : EN' X (i :: is) (.Name x pos :: tgs) := by
  obtain ⟨gs, p, v⟩ := r
  refine ⟨_, pgs_cons (pg_name hN hi hx hf) p hs, fun xs σ H Q h q => ?_⟩
  cases xs with
  | nil => simp at h
  | cons x xs => exact ⟨x, xs, rfl, v xs _ H Q (by simpa using h) q⟩
/-- a written tuple stored at names, any number, captured or not -/
theorem es_mul {is : List Nat} {tgs : List Expr} {kt k2 : Nat} {pt pt2 : Pos} (hc : X.calm = true) (ha : EM cl X es ms) (hg : EN' X is tgs) (hp : ∀ i ∈ is, pn i = false := by decide) (hz : is.length ≤ 1000 := by decide)
    (hn : (assignEach tgs X.env).length = is.length := by rfl) (hst : (assignEach tgs X.env).findIdx? (·.1) = none := by rfl)
    (hs : swapsWithSole [.Tuple tgs kt pt] (.Tuple es k2 pt2) pos.line X.env = pure false := by rfl) (hw : swappedStores [.Tuple tgs kt pt] (.Tuple es k2 pt2) X.env = pure none := by rfl)
    (h1 : (assignEach [.Tuple tgs kt pt] X.env).map (·.2) = [assign (.Tuple tgs kt pt) X.env] := by rfl) : ES cl pn X (.Assign [.Tuple tgs kt pt] (.Tuple es k2 pt2) pos) (sMul is ms) := fun W tk => by
  obtain ⟨t, p, v⟩ := ha W tk
  obtain ⟨gs, p2, v2⟩ := hg
  refine ⟨_, ps_asg (pe_tup p) (pg_tup hc p2 hn hst) hs hw h1, ev_mul (k := fun D σ xs H1 => xs.length ≤ sizeLine ∧ ∀ p, H1 p = none → gTup X.K is.length gs (.ref p) σ (upd H1 p (.tup xs)) D.nx) v hp fun D σ xs H1 hl h => ?_⟩
  refine ⟨by rw [hl]; exact Nat.le_trans hz (by decide), fun p n => ⟨p, xs, rfl, .inl (.inl upd_same), hl, v2 xs σ _ _ hl (h _ (.inr ⟨p, n, rfl⟩))⟩⟩
end
end Dm
end TxtDm7

section TxtDm8
set_option Elab.async false
set_option linter.all false
set_option maxRecDepth 100000
/-! Dm8: what is walked; for, while; comprehensions. -/
namespace Dm
open PySem PySem.Spec PyProof.Rows L2

theorem PI.or {X : Cx} {tg e : Expr} {w w' : TI} (h : PI X tg e w) (h' : PI X tg e w') : PI X tg e (fun σ H R => w σ H R ∨ w' σ H R) :=
  ⟨fun pins s σ H R I q => q.elim (fun q => h.run pins s σ H R I q) fun q => h'.run pins s σ H R I q⟩
/-- an iterator hands out these items, as long as what is frozen at F0 stands -/
structure ItOk (K : PySem.W.Frag) (cl : Str → Option Addr) (J : It) (F0 H0 : Hp) (items : List D) : Prop where
  go : ∀ F H (i : Nat) d, (∀ a o, F0 a = some o → F a = some o) → (∀ a o, F0 a ≠ none → H0 a = some o → H a = some o) → Sub F H → items[i]? = some d → J.go i H ∧ ∀ x H', J.yld i H x H' → ∃ F', Grow F H F' H' ∧ Rep K cl F' x d
  stop : ∀ F H, (∀ a o, F0 a = some o → F a = some o) → (∀ a o, F0 a ≠ none → H0 a = some o → H a = some o) → Sub F H → J.stop items.length H
/-- what is frozen stands -/
theorem stands {K : PySem.W.Frag} {cl : Str → Option Addr} {F F1 H H1 : Hp} {σ σ1 : L2.St} {ρ ρ1 : En} {pn : Nat → Bool} (S : Sta K cl F σ H ρ) (s : Stp pn σ ρ F H σ1 ρ1 F1 H1) : ∀ a o, F a ≠ none → H a = some o → H1 a = some o := fun a o n h =>
  s.keep a o h fun ⟨i, c, h1, h2, h3⟩ => by
    obtain ⟨p, u, e1, e2, _⟩ := S.own i c h1 h2
    rw [h3] at e1; cases e1
    exact n e2
section
variable (K : PySem.W.Frag) (cl : Str → Option Addr)
def PstI (W : WX) (R : It → Hp → Prop) (σ : L2.St) (ρ : En) (F H : Hp) : Ou (List D) → Prop
  | .ok items ρ' => ∀ J F' H', Sta K cl F' σ H' ρ' → Stp (fun _ => true) σ ρ F H σ ρ' F' H' → ItOk K cl J F' H' items → R J H'
  | .er e ρ' => ∀ c d F' H', Sta K cl F' σ H' ρ' → Stp (fun _ => true) σ ρ F H σ ρ' F' H' → ErrOk K cl F' e c d → W c d σ H'
  | .st => False
def EvI (W : WX) (wi : TI) (xi : En → Ou (List D)) : Prop := ∀ F σ H ρ R, Sta K cl F σ H ρ → PstI K cl W R σ ρ F H (xi ρ) → wi σ H R
end
def EI (cl : Str → Option Addr) (X : Cx) (tg e : Expr) (xi : En → Ou (List D)) : Prop := ∀ W, Takes X W → ∃ w, PI X tg e w ∧ EvI X.K cl W w xi
def itemsD : D → Option (List D)
  | .lst ds => some ds
  | .tup ds => some ds
  | .scr ns => some (ns.map .int)
  | .str z => some (z.cps.toList.map fun c => .str ⟨#[c]⟩)
  | _ => none
def iSeq (ex : En → Ou R) : En → Ou (List D) := fun ρ => (vl ex ρ).bn fun d ρ1 => match itemsD d with
  | some ds => .ok ds ρ1
  | none => .st
section
variable {K : PySem.W.Frag} {cl : Str → Option Addr} {F F' F1 F2 H H' H1 H2 H0 : Hp} {σ σ1 σ2 σ0 : L2.St} {ρ ρ0 ρ1 ρ2 : En} {pn : Nat → Bool} {v x : V} {d : D} {W : WX}
theorem itOk_list {a : Addr} {vs : List V} {ds : List D} (h : SqL K F a vs) (r : RepL K cl F vs ds) : ItOk K cl (Itl K a) F H ds := by
  refine ⟨fun F1 H1 i d m _ s e => ?_, fun F1 H1 m _ s => ⟨vs, sqL_sub s (sqL_mono m h), Nat.le_of_eq r.1⟩⟩
  have hq := sqL_sub s (sqL_mono m h)
  obtain ⟨v, e1, e2⟩ := r.get e
  refine ⟨⟨vs, v, hq, e1⟩, fun x H' y => ?_⟩
  obtain ⟨rfl, y⟩ := y
  have := y vs hq
  rw [e1] at this; cases this
  exact ⟨F1, Grow.refl s, e2.mono m⟩
theorem itOk_tup {a : Addr} {vs : List V} {ds : List D} (h : SqT K F a vs) (r : RepL K cl F vs ds) : ItOk K cl (Itt K a) F H ds := by
  refine ⟨fun F1 H1 i d m _ s e => ?_, fun F1 H1 m _ s => ⟨vs, sqT_sub s (sqT_mono m h), Nat.le_of_eq r.1⟩⟩
  have hq := sqT_sub s (sqT_mono m h)
  obtain ⟨v, e1, e2⟩ := r.get e
  refine ⟨⟨vs, v, hq, e1⟩, fun x H' y => ?_⟩
  obtain ⟨rfl, y⟩ := y
  have := y vs hq
  rw [e1] at this; cases this
  exact ⟨F1, Grow.refl s, e2.mono m⟩
theorem itOk_str {z : Str} : ItOk K cl (Its z) F H (z.cps.toList.map fun c => .str ⟨#[c]⟩) := by
  refine ⟨fun F1 H1 i d m _ s e => ?_, fun F1 H1 m _ s => by simp [Its]⟩
  rw [List.getElem?_map] at e
  cases e1 : z.cps.toList[i]? with
  | none => rw [e1] at e; cases e
  | some c =>
    rw [e1] at e; cases e
    have hl : i < z.cps.size := by
      have := (List.getElem?_eq_some_iff.mp e1).1
      simpa using this
    refine ⟨hl, fun x H' y => ?_⟩
    obtain ⟨rfl, c', h1, rfl⟩ := y
    rw [← Array.getElem?_toList, e1] at h1; cases h1
    exact ⟨F1, Grow.refl s, .str _⟩
theorem ev_iseq {te : TE} {ex : En → Ou R} (h : EvE K cl W te ex) : EvI K cl W (fun σ H R => iList K te σ H R ∨ iTup K te σ H R ∨ iStr te σ H R) (iSeq ex) := by
  intro F σ H ρ R S q
  unfold iSeq at q
  cases e : vl ex ρ with
  | st => rw [e] at q; exact q.elim
  | er y ρ' => rw [e] at q; exact .inl (h.val F σ H ρ _ S (by rw [e]; exact q))
  | ok d ρ1 =>
    rw [e, Ou.bn_ok] at q
    cases d with
    | lst ds =>
      refine .inl (h.val F σ H ρ _ S ?_)
      rw [e]
      intro x F1 H1 S1 s1 r
      cases r with
      | @lst a vs ds h l r => exact ⟨a, rfl, ⟨vs, .inl (.inl (sub_not S1.sub (fun z => z) h))⟩, q _ F1 H1 S1 s1 (itOk_list (.inl (.inl h)) ⟨l, r⟩)⟩
    | scr ns =>
      refine .inl (h.val F σ H ρ _ S ?_)
      rw [e]
      intro x F1 H1 S1 s1 r
      cases r with
      | @scr a ns h => exact ⟨a, rfl, ⟨_, sqL_sub S1.sub h⟩, q _ F1 H1 S1 s1 (itOk_list h (RepL.of_ints ns))⟩
    | tup ds =>
      refine .inr (.inl (h.val F σ H ρ _ S ?_))
      rw [e]
      intro x F1 H1 S1 s1 r
      cases r with
      | @tup a vs ds h _ l r => exact ⟨a, rfl, ⟨vs, sqT_sub S1.sub h⟩, q _ F1 H1 S1 s1 (itOk_tup h ⟨l, r⟩)⟩
    | str z =>
      refine .inr (.inr (h.val F σ H ρ _ S ?_))
      rw [e]
      intro x F1 H1 S1 s1 r
      cases r
      exact ⟨z, rfl, q _ F1 H1 S1 s1 itOk_str⟩
    | _ => exact q.elim
/-- range -/
def rngD (lo hi : Int) : List D := (List.range (hi - lo).toNat).map fun (i : Nat) => .int (lo + i)
def okR (i : Int) : Bool := okW 4611686018427387902 i
def iRange (a : En → Ou (List D)) : En → Ou (List D) := fun ρ => (a ρ).bn fun ds ρ1 => match ds with
  | [.int j] => if okR j then .ok (rngD 0 j) ρ1 else .st
  | [.int i, .int j] => if okR i && okR j then .ok (rngD i j) ρ1 else .st
  | _ => .st
theorem itOk_rng {lo : Int} {n : Nat} : ItOk K cl (Itr lo n) F H ((List.range n).map fun (i : Nat) => .int (lo + i)) := by
  refine ⟨fun F1 H1 i d m _ s e => ?_, fun F1 H1 m _ s => by simp [Itr]⟩
  rw [List.getElem?_map] at e
  cases e1 : (List.range n)[i]? with
  | none => rw [e1] at e; cases e
  | some c =>
    rw [e1] at e; cases e
    obtain ⟨h1, h2⟩ := List.getElem?_eq_some_iff.mp e1
    simp at h1 h2
    subst h2
    refine ⟨h1, fun x H' y => ?_⟩
    obtain ⟨rfl, rfl⟩ := y
    exact ⟨F1, Grow.refl s, .int _⟩
theorem okR_ok {i : Int} (h : okR i = true) : -(2 ^ 62) ≤ i ∧ i < 2 ^ 62 := by
  have := okW_iff.mp h
  omega
theorem ev_irng {ta : TA} {a : En → Ou (List D)} (h : EvA K cl W ta a) : EvI K cl W (iRng1 ta) (fun ρ => (a ρ).bn fun ds ρ1 => match ds with
    | [.int j] => if okR j then .ok (rngD 0 j) ρ1 else .st
    | _ => .st) := by
  intro F σ H ρ R S q
  refine h.then (P := PstI K cl W R σ ρ F H) S q (fun z => z) (fun _ _ z => z) fun ds ρ1 q xs F1 H1 S1 s1 r => ?_
  split at q
  · rename_i j
    by_cases hj : okR j = true
    · rw [if_pos hj] at q
      have : xs = [.int j] := r.ints (ns := [j])
      subst this
      obtain ⟨h1, h2⟩ := okR_ok hj
      refine ⟨j, rfl, h1, h2, q _ F1 H1 S1 s1 ?_⟩
      have e : rngD 0 j = (List.range j.toNat).map fun (i : Nat) => D.int (0 + i) := by unfold rngD; rw [Int.sub_zero]
      rw [e]
      exact itOk_rng
    · rw [if_neg hj] at q; exact q.elim
  · exact q.elim
theorem ev_irng2 {ta : TA} {a : En → Ou (List D)} (h : EvA K cl W ta a) : EvI K cl W (iRng2 ta) (fun ρ => (a ρ).bn fun ds ρ1 => match ds with
    | [.int i, .int j] => if okR i && okR j then .ok (rngD i j) ρ1 else .st
    | _ => .st) := by
  intro F σ H ρ R S q
  refine h.then (P := PstI K cl W R σ ρ F H) S q (fun z => z) (fun _ _ z => z) fun ds ρ1 q xs F1 H1 S1 s1 r => ?_
  split at q
  · rename_i i j
    by_cases hj : (okR i && okR j) = true
    · rw [if_pos hj] at q
      have : xs = [.int i, .int j] := r.ints (ns := [i, j])
      subst this
      rw [Bool.and_eq_true] at hj
      obtain ⟨h1, h2⟩ := okR_ok hj.1
      obtain ⟨h3, h4⟩ := okR_ok hj.2
      exact ⟨i, j, rfl, ⟨h1, h2, h3, h4⟩, q _ F1 H1 S1 s1 itOk_rng⟩
    · rw [if_neg hj] at q; exact q.elim
  · exact q.elim
/-- enumerate of a list -/
def enumD (ds : List D) : List D := ds.zipIdx.map fun p => .tup [.int (p.2 : Nat), p.1]
def iEnumL (ex : En → Ou R) : En → Ou (List D) := fun ρ => (vl ex ρ).bn fun d ρ1 => match d with
  | .lst ds => .ok (enumD ds) ρ1
  | _ => .st
theorem enumD_get {ds : List D} {i : Nat} {d : D} (e : (enumD ds)[i]? = some d) : ∃ d', ds[i]? = some d' ∧ d = .tup [.int (i : Nat), d'] := by
  unfold enumD at e
  rw [List.getElem?_map, List.getElem?_zipIdx] at e
  cases e1 : ds[i]? with
  | none => rw [e1] at e; cases e
  | some d' => rw [e1] at e; simp at e; exact ⟨d', rfl, by rw [← e]⟩
theorem enumD_length (ds : List D) : (enumD ds).length = ds.length := by simp [enumD]
theorem ev_ienum {ta : TE} {ex : En → Ou R} (h : EvE K cl W ta ex) : EvI K cl W (iEnum K (tCons ta tNil)) (iEnumL ex) := by
  intro F σ H ρ R S q
  refine h.val.then (P := PstI K cl W R σ ρ F H) S q (fun z => z) (fun _ _ z => z) fun d ρ1 q x F1 H1 S1 s1 r => ?_
  cases d with
  | lst ds =>
    cases r with
    | @lst a vs ds h l r =>
      refine ⟨a, vs, rfl, .inl (.inl (sub_not S1.sub (fun z => z) h)), q _ F1 H1 S1 s1 ⟨fun F2 H2 i d m _ s e => ?_, fun F2 H2 m _ s => ?_⟩⟩
      · have hq : SqL K H2 a vs := .inl (.inl (sub_not s (fun z => z) (m _ _ h)))
        obtain ⟨d', e1, rfl⟩ := enumD_get e
        obtain ⟨v, e2, rv⟩ := RepL.get (⟨l, r⟩ : RepL K cl F1 vs ds) e1
        refine ⟨⟨vs, v, hq, e2⟩, fun x H' y => ?_⟩
        obtain ⟨T, x', rfl, hT, rfl, hx⟩ := y
        have := hx vs hq
        rw [e2] at this; cases this
        obtain ⟨g, rr⟩ := resT (cl := cl) s hT (RepL.cons (.int ((i : Nat) : Int)) (RepL.one (rv.mono m)))
        exact ⟨_, g, rr⟩
      · refine ⟨vs, .inl (.inl (sub_not s (fun z => z) (m _ _ h))), ?_⟩
        rw [enumD_length, l]
        exact Nat.le_refl _
  | _ => exact q.elim

/-! ### for, while -/
def forL (g : D → En → Ou Unit) (b : En → Ou Fl) : List D → En → Ou Fl
  | [], ρ => .ok .nx ρ
  | d :: ds, ρ => (g d ρ).bn fun _ ρ1 => (b ρ1).bn fun f ρ2 => match f with
    | .nx => forL g b ds ρ2
    | .ct => forL g b ds ρ2
    | .bk => .ok .nx ρ2
    | .rt r => .ok (.rt r) ρ2
def sFor (xi : En → Ou (List D)) (g : D → En → Ou Unit) (b : En → Ou Fl) : En → Ou Fl := fun ρ => (xi ρ).bn fun ds ρ1 => forL g b ds ρ1
theorem ev_for {wi : TI} {g : TG} {tb : TS} {xi : En → Ou (List D)} {gx : D → En → Ou Unit} {b : En → Ou Fl} (hi : EvI K cl W wi xi) (hg : EvG K cl pn W g gx) (hb : EvS K cl pn W tb b) : EvS K cl pn W (tFor wi g tb) (sFor xi gx b) := by
  intro F σ H ρ D S q
  refine hi F σ H ρ _ S ?_
  unfold sFor at q
  cases e : xi ρ with
  | st => rw [e] at q; exact q
  | er y ρ' => rw [e] at q; exact fun c d F' H' S' s' er => q c d σ F' H' S' s'.wk er
  | ok items ρ1 =>
    rw [e, Ou.bn_ok] at q
    intro J F1 H1 S1 s1 it
    refine ⟨fun i m σ2 H2 => m = items.length - i ∧ i ≤ items.length ∧ ∃ F2 ρ2, (∀ a o, F1 a = some o → F2 a = some o) ∧ Sta K cl F2 σ2 H2 ρ2 ∧ Stp pn σ ρ1 F1 H1 σ2 ρ2 F2 H2 ∧ PstS K cl pn W D σ ρ F H (forL gx b (items.drop i) ρ2),
      ⟨items.length, rfl, Nat.zero_le _, F1, ρ1, fun _ _ h => h, S1, Stp.refl, q⟩, ?_⟩
    rintro i m σ2 H2 ⟨rfl, hi, F2, ρ2, m2, S2, s2, q2⟩
    by_cases hlt : i < items.length
    · refine .inr ?_
      have ei : items[i]? = some items[i] := by simp [hlt]
      obtain ⟨g0, gy⟩ := it.go F2 H2 i items[i] m2 (stands S1 s2) S2.sub ei
      refine ⟨g0, fun σ' H' => (i + 1 ≤ items.length ∧ ∃ F2 ρ2, (∀ a o, F1 a = some o → F2 a = some o) ∧ Sta K cl F2 σ' H' ρ2 ∧ Stp pn σ ρ1 F1 H1 σ' ρ2 F2 H' ∧ PstS K cl pn W D σ ρ F H (forL gx b (items.drop (i + 1)) ρ2)), fun σ' H' n => ⟨items.length - (i + 1), by omega, rfl, n.1, n.2⟩, fun x H' y => ?_⟩
      obtain ⟨F3, gr, rx⟩ := gy x H' y
      have S3 := gr.sta S2
      have s3 := s2.trans (gr.stp (pn := pn))
      have ed : items.drop i = items[i] :: items.drop (i + 1) := by rw [List.drop_eq_getElem_cons hlt]
      rw [ed] at q2
      unfold forL at q2
      refine hg F3 σ2 H' ρ2 x items[i] _ S3 rx ?_
      cases e3 : gx items[i] ρ2 with
      | st => rw [e3] at q2; exact q2
      | er y' ρ' => rw [e3] at q2; exact fun c d σ' F' H' S' s' er => q2 c d σ' F' H' S' (s1.wk.trans (s3.trans s')) er
      | ok u ρ3 =>
        rw [e3, Ou.bn_ok] at q2
        intro σ4 F4 H4 S4 s4
        have s34 := s3.trans s4
        refine hb F4 σ4 H4 ρ3 _ S4 ?_
        cases e4 : b ρ3 with
        | st => rw [e4] at q2; exact q2
        | er y' ρ' => rw [e4] at q2; exact fun c d σ' F' H' S' s' er => q2 c d σ' F' H' S' (s1.wk.trans (s34.trans s')) er
        | ok f ρ4 =>
          rw [e4, Ou.bn_ok] at q2
          have mm : ∀ {F5 H5 σ5 ρ5}, Stp pn σ4 ρ3 F4 H4 σ5 ρ5 F5 H5 → ∀ a o, F1 a = some o → F5 a = some o := fun s5 a o h => s5.mono a o (s4.mono a o (gr.mono a o (m2 a o h)))
          cases f with
          | nx => exact fun σ' F' H' S' s' => ⟨hlt, F', ρ4, mm s', S', s34.trans s', q2⟩
          | ct => exact fun σ' F' H' S' s' => ⟨hlt, F', ρ4, mm s', S', s34.trans s', q2⟩
          | bk => exact fun σ' F' H' S' s' => q2 σ' F' H' S' (s1.wk.trans (s34.trans s'))
          | rt r => exact fun x σ' F' H' S' s' rr => q2 x σ' F' H' S' (s1.wk.trans (s34.trans s')) (rr.from (s1.wk.trans s34))
    · have ei : i = items.length := by omega
      subst ei
      refine .inl ⟨it.stop F2 H2 m2 (stands S1 s2) S2.sub, ?_⟩
      rw [List.drop_length] at q2
      exact q2 σ2 F2 H2 S2 (s1.wk.trans s2)
def whl (t : En → Ou Bool) (b : En → Ou Fl) : Nat → En → Ou Fl
  | 0, _ => .st
  | n + 1, ρ => (t ρ).bn fun c ρ1 => if c then (b ρ1).bn fun f ρ2 => (match f with
    | .nx => whl t b n ρ2
    | .ct => whl t b n ρ2
    | .bk => .ok .nx ρ2
    | .rt r => .ok (.rt r) ρ2) else .ok .nx ρ1
theorem ev_while {t : TT} {tb : TS} {tx : En → Ou Bool} {b : En → Ou Fl} (n : Nat) (ht : EvT K cl W t tx) (hb : EvS K cl pn W tb b) : EvS K cl pn W (tWhile t tb) (whl tx b n) := by
  intro F σ H ρ D S q
  refine ⟨fun m σ2 H2 => ∃ F2 ρ2, Sta K cl F2 σ2 H2 ρ2 ∧ Stp pn σ ρ F H σ2 ρ2 F2 H2 ∧ PstS K cl pn W D σ ρ F H (whl tx b m ρ2), ⟨n, F, ρ, S, Stp.refl, q⟩, ?_⟩
  rintro m σ2 H2 ⟨F2, ρ2, S2, s2, q2⟩
  cases m with
  | zero => exact q2.elim
  | succ m =>
    unfold whl at q2
    refine ht.then (P := PstS K cl pn W D σ ρ F H) S2 q2 (fun z => z) (fun _ _ z c d F' H' S' s' er => z c d σ2 F' H' S' (s2.trans s'.wk) er) fun c ρ3 q3 F3 H3 S3 s3 => ?_
    have s23 := s2.trans (s3.wk (pn := pn))
    cases c with
    | false => exact q3 σ2 F3 H3 S3 s23
    | true =>
      rw [if_pos rfl]
      refine ⟨fun σ' H' => ∃ F2 ρ2, Sta K cl F2 σ' H' ρ2 ∧ Stp pn σ ρ F H σ' ρ2 F2 H' ∧ PstS K cl pn W D σ ρ F H (whl tx b m ρ2), fun σ' H' h => ⟨m, Nat.lt_succ_self m, h⟩, ?_⟩
      refine hb F3 σ2 H3 ρ3 _ S3 ?_
      rw [if_pos rfl] at q3
      cases e4 : b ρ3 with
      | st => rw [e4] at q3; exact q3
      | er y' ρ' => rw [e4] at q3; exact fun c d σ' F' H' S' s' er => q3 c d σ' F' H' S' (s23.trans s') er
      | ok f ρ4 =>
        rw [e4, Ou.bn_ok] at q3
        cases f with
        | nx => exact fun σ' F' H' S' s' => ⟨F', ρ4, S', s23.trans s', q3⟩
        | ct => exact fun σ' F' H' S' s' => ⟨F', ρ4, S', s23.trans s', q3⟩
        | bk => exact fun σ' F' H' S' s' => q3 σ' F' H' S' (s23.trans s')
        | rt r => exact fun x σ' F' H' S' s' rr => q3 x σ' F' H' S' (s23.trans s') (rr.from s23)
end
section
variable {cl : Str → Option Addr} {pn : Nat → Bool} {X : Cx} {tg e : Expr} {ex : En → Ou R} {pos : Pos} {xi : En → Ou (List D)} {gx : D → En → Ou Unit} {b : En → Ou Fl}
theorem ei_seq (h : EE cl X e ex) : EI cl X tg e (iSeq ex) := fun W tk => let ⟨_, p, v⟩ := h W tk; ⟨_, PI.or (pi_list p) (PI.or (pi_tup p) (pi_str p)), ev_iseq v⟩
theorem ei_range1 {a : Expr} {p : Pos} (hm : X.mg "range" = none) (h : EE cl X a ex) (hg : Gl X "range" := by rfl) (hs : starEach [a] X.env = [(false, eval a X.env)] := by rfl) : EI cl X tg (.Call (.Name "range" p) [a] [] pos) (fun ρ => (aCons ex aNil ρ).bn fun ds ρ1 => match ds with
    | [.int j] => if okR j then .ok (rngD 0 j) ρ1 else .st
    | _ => .st) := fun W tk => let ⟨_, p, v⟩ := ea_cons h ea_nil hs W tk; ⟨_, pi_range1 hg hm p hs, ev_irng v⟩
theorem ei_range2 {a a2 : Expr} {ex2 : En → Ou R} {p : Pos} (hm : X.mg "range" = none) (h : EE cl X a ex) (h2 : EE cl X a2 ex2) (hg : Gl X "range" := by rfl) (hs : starEach [a, a2] X.env = [(false, eval a X.env), (false, eval a2 X.env)] := by rfl) (hs2 : starEach [a2] X.env = [(false, eval a2 X.env)] := by rfl) : EI cl X tg (.Call (.Name "range" p) [a, a2] [] pos) (fun ρ => (aCons ex (aCons ex2 aNil) ρ).bn fun ds ρ1 => match ds with
    | [.int i, .int j] => if okR i && okR j then .ok (rngD i j) ρ1 else .st
    | _ => .st) := fun W tk => let ⟨_, p, v⟩ := ea_cons h (ea_cons h2 ea_nil hs2) (by rw [hs, hs2]) W tk; ⟨_, pi_range2 hg hm p hs hs2, ev_irng2 v⟩
theorem ei_enumL {elts : List Expr} {kk : Nat} {tpos p : Pos} (hm : X.mg "enumerate" = none) (h : EE cl X e ex) (hg : Gl X "enumerate" := by rfl) (hs : starEach [e] X.env = [(false, eval e X.env)] := by rfl) : EI cl X (.Tuple elts kk tpos) (.Call (.Name "enumerate" p) [e] [] pos) (iEnumL ex) := fun W tk =>
  let ⟨_, pp, v⟩ := h W tk; ⟨_, pi_enum hg hm (pa_cons pp pa_nil hs) hs, ev_ienum v⟩
theorem es_for {body : List Stmt} (hp : PassesOwn (model X.prog X.w) X.A X.env X.xe) (hc : X.calm = true) (hi : EI cl X tg e xi) (hg : EG cl pn X tg gx) (hb : ESs cl pn X body b) (hs : ∀ x, foldedSetIterable e X.env x = pure x := by intro _; rfl) : ES cl pn X (.For tg e body [] pos) (sFor xi gx b) := fun W tk =>
  let ⟨_, p, v⟩ := hi W tk; let ⟨_, p1, v1⟩ := hg W tk; let ⟨_, p2, v2⟩ := hb W tk; ⟨_, ps_for hp hc p p1 p2 hs, ev_for v v1 v2⟩
theorem es_while (n : Nat) {c : Expr} {tx : En → Ou Bool} {body : List Stmt} (hp : PassesOwn (model X.prog X.w) X.A X.env X.xe) (hc : ET cl X c tx) (hb : ESs cl pn X body b) : ES cl pn X (.While c body [] pos) (whl tx b n) := fun W tk =>
  let ⟨_, p, v⟩ := hc W tk; let ⟨_, p2, v2⟩ := hb W tk; ⟨_, ps_while hp p p2, ev_while n v v2⟩
end
end Dm
end TxtDm8

section TxtDm9
set_option Elab.async false
set_option linter.all false
set_option maxRecDepth 100000
/-! Dm9: list comprehensions. -/
namespace Dm
open PySem PySem.Spec PyProof.Rows L2

def wipE (ρ : En) : List Nat → En
  | [] => ρ
  | v :: vs => (wipE ρ vs).set v none
def unw (ρ1 ρb : En) : List Nat → En
  | [] => ρb
  | v :: vs => (unw ρ1 ρb vs).set v (ρ1.getD v none)
def lcL (g : D → En → Ou Unit) (t : En → Ou Bool) (e : En → Ou R) (vs : List Nat) : List D → List D → En → Ou (List D)
  | [], acc, ρ => .ok acc ρ
  | d :: ds, acc, ρ => (g d ρ).bn fun _ ρ1 => (t ρ1).bn fun c ρ2 => if c then (vl e ρ2).bn fun y ρ3 => (if acc.length < sizeLine then lcL g t e vs ds (acc ++ [y]) (wipE ρ3 vs) else .st) else lcL g t e vs ds acc (wipE ρ2 vs)
def noEr {α : Type} : Ou α → Ou α
  | .ok a ρ => .ok a ρ
  | _ => .st
def xLc (xi : En → Ou (List D)) (g : D → En → Ou Unit) (t : En → Ou Bool) (e : En → Ou R) (vs : List Nat) : En → Ou R := fun ρ => (xi ρ).bn fun items ρ1 => (noEr (lcL g t e vs items [] (wipE ρ1 vs))).bn fun ds ρb => .ok (.o (.L ds)) (unw ρ1 ρb vs)
def tTrue : En → Ou Bool := fun ρ => .ok true ρ
def pnB (vs : List Nat) (i : Nat) : Bool := !vs.contains i
section
variable {K : PySem.W.Frag} {cl : Str → Option Addr} {F F' F1 F2 H H' H1 H2 H0 : Hp} {σ σ1 σ2 σ0 : L2.St} {ρ ρ0 ρ1 ρ2 ρb : En} {pn : Nat → Bool} {v x : V} {d : D} {W : WX} {vs : List Nat}
theorem wipE_length : ∀ vs : List Nat, (wipE ρ vs).length = ρ.length
  | [] => rfl
  | v :: vs => by show ((wipE ρ vs).set v none).length = _; rw [List.length_set, wipE_length vs]
theorem unw_length : ∀ vs : List Nat, (unw ρ1 ρb vs).length = ρb.length
  | [] => rfl
  | v :: vs => by show ((unw ρ1 ρb vs).set v _).length = _; rw [List.length_set, unw_length vs]
theorem wipE_some {i : Nat} {c : C} : ∀ {vs : List Nat}, (wipE ρ vs)[i]? = some (some c) → ρ[i]? = some (some c) ∧ i ∉ vs
  | [], h => ⟨h, by simp⟩
  | v :: vs, h => by
    rcases get_set_some h with ⟨_, z⟩ | ⟨ne, z⟩
    · cases z
    · obtain ⟨a, b⟩ := wipE_some z
      exact ⟨a, fun m => (List.mem_cons.mp m).elim (fun z => ne z.symm) b⟩
theorem wipE_in {i : Nat} {c : C} (h : ρ[i]? = some (some c)) : ∀ {vs : List Nat}, i ∉ vs → (wipE ρ vs)[i]? = some (some c)
  | [], _ => h
  | v :: vs, hn => by
    have hv : v ≠ i := fun z => hn (z ▸ List.mem_cons_self)
    show ((wipE ρ vs).set v none)[i]? = _
    rw [List.getElem?_set_ne hv]
    exact wipE_in h fun m => hn (List.mem_cons_of_mem _ m)
theorem wipe_out {i : Nat} : ∀ {vs : List Nat}, i ∉ vs → (L2.wipe σ vs)[i]? = σ[i]?
  | [], _ => rfl
  | v :: vs, hn => by
    have hv : v ≠ i := fun z => hn (z ▸ List.mem_cons_self)
    show ((L2.wipe σ vs).set v none)[i]? = _
    rw [List.getElem?_set_ne hv]
    exact wipe_out fun m => hn (List.mem_cons_of_mem _ m)
theorem wipe_mem {i : Nat} {x : V} : ∀ {vs : List Nat}, i ∈ vs → (L2.wipe σ vs)[i]? ≠ some (some x)
  | v :: vs, hm => fun z => (wipe_some (vs := v :: vs) z).2 hm
theorem unw_some {i : Nat} {c : C} : ∀ {vs : List Nat}, (unw ρ1 ρb vs)[i]? = some (some c) → (i ∈ vs ∧ ρ1[i]? = some (some c)) ∨ (i ∉ vs ∧ ρb[i]? = some (some c))
  | [], h => .inr ⟨by simp, h⟩
  | v :: vs, h => by
    rcases get_set_some h with ⟨e, z⟩ | ⟨ne, z⟩
    · subst e
      refine .inl ⟨List.mem_cons_self, ?_⟩
      rw [List.getD_eq_getElem?_getD] at z
      cases q : ρ1[v]? with
      | none => rw [q] at z; cases z
      | some y => rw [q] at z; rw [← z]; rfl
    · rcases unw_some z with ⟨a, b⟩ | ⟨a, b⟩
      · exact .inl ⟨List.mem_cons_of_mem _ a, b⟩
      · exact .inr ⟨fun m => (List.mem_cons.mp m).elim (fun z => ne z.symm) a, b⟩
theorem ownS_wipe {p : Addr} (h : OwnS (L2.wipe σ vs) (wipE ρ vs) p) : OwnS σ ρ p ∧ ∃ i c, ρ[i]? = some (some c) ∧ c.own = true ∧ σ[i]? = some (some (.ref p)) ∧ i ∉ vs := by
  obtain ⟨i, c, h1, h2, h3⟩ := h
  obtain ⟨a, b⟩ := wipE_some h1
  rw [wipe_out b] at h3
  exact ⟨⟨i, c, a, h2, h3⟩, i, c, a, h2, h3, b⟩
theorem Sta.wipe (S : Sta K cl F σ H ρ) (vs : List Nat) : Sta K cl F (L2.wipe σ vs) H (wipE ρ vs) := by
  refine ⟨S.sub, by rw [wipE_length, wipe_length]; exact S.len, fun i d h => ?_, fun i c h hc => ?_, fun i j ci cj p h1 h2 h3 h4 h5 h6 => ?_⟩
  · obtain ⟨a, b⟩ := wipE_some h
    rw [wipe_out b]
    exact S.val i d a
  · obtain ⟨a, b⟩ := wipE_some h
    rw [wipe_out b]
    exact S.own i c a hc
  · obtain ⟨a1, b1⟩ := wipE_some h1
    obtain ⟨a2, b2⟩ := wipE_some h2
    rw [wipe_out b1] at h5
    rw [wipe_out b2] at h6
    exact S.sep i j ci cj p a1 a2 h3 h4 h5 h6
/-- slots that differ in vs alone, wiped, are the same -/
theorem wipe_eq (hl : σ1.length = σ.length) (h : ∀ i, i ∉ vs → σ1[i]? = σ[i]?) : L2.wipe σ1 vs = L2.wipe σ vs := by
  apply List.ext_getElem?
  intro i
  by_cases hi : i ∈ vs
  · by_cases hb : i < σ.length
    · have e1 : ∀ {τ : L2.St}, i < τ.length → (L2.wipe τ vs)[i]? = some none := fun {τ} ht => by
        have hx : i < (L2.wipe τ vs).length := by rw [wipe_length]; exact ht
        cases q : (L2.wipe τ vs)[i]? with
        | none => rw [List.getElem?_eq_none_iff] at q; omega
        | some o =>
          cases o with
          | none => rfl
          | some y => exact absurd q (wipe_mem hi)
      rw [e1 hb, e1 (by omega)]
    · rw [List.getElem?_eq_none (by rw [wipe_length]; omega), List.getElem?_eq_none (by rw [wipe_length]; omega)]
  · rw [wipe_out hi, wipe_out hi, h i hi]
theorem wipe_wipe : wipe (L2.wipe σ vs) vs = L2.wipe σ vs := wipe_eq (wipe_length _ _) fun i hi => wipe_out hi
/-- behind a block the outer slots again -/
theorem Sta.unwipe (S1 : Sta K cl F1 σ H1 ρ1) (S : Sta K cl F (L2.wipe σ vs) H ρb) (st : Stp pn (L2.wipe σ vs) (wipE ρ1 vs) F1 H1 (L2.wipe σ vs) ρb F H) : Sta K cl F σ H (unw ρ1 ρb vs) := by
  have nown : ∀ {i : Nat} {c : C} {p : Addr}, i ∈ vs → ρ1[i]? = some (some c) → c.own = true → σ[i]? = some (some (.ref p)) → ¬ OwnS (L2.wipe σ vs) (wipE ρ1 vs) p := fun {i c p} hi h hc hp q => by
    obtain ⟨_, j, c', a1, a2, a3, a4⟩ := ownS_wipe q
    exact a4 (S1.sep i j c c' p h a1 hc a2 hp a3 ▸ hi)
  refine ⟨S.sub, by rw [unw_length, ← wipe_length σ vs]; exact S.len, fun i d h => ?_, fun i c h hc => ?_, fun i j ci cj p h1 h2 h3 h4 h5 h6 => ?_⟩
  · rcases unw_some h with ⟨a, b⟩ | ⟨a, b⟩
    · obtain ⟨x, e, r⟩ := S1.val i d b
      exact ⟨x, e, r.mono st.mono⟩
    · rw [← wipe_out a]
      exact S.val i d b
  · rcases unw_some h with ⟨a, b⟩ | ⟨a, b⟩
    · obtain ⟨p, o, e1, e2, e3, e4⟩ := S1.own i c b hc
      have n := nown a b hc e1
      exact ⟨p, o, e1, (st.free p o e3 n e2).resolve_right (e4.ns hc), st.keep p o e3 n, e4.mono st.mono⟩
    · rw [← wipe_out a]
      exact S.own i c b hc
  · have mix : ∀ {i j : Nat} {ci cj : C}, i ∈ vs → ρ1[i]? = some (some ci) → ci.own = true → σ[i]? = some (some (.ref p)) → j ∉ vs → ρb[j]? = some (some cj) → cj.own = true → σ[j]? = some (some (.ref p)) → False := fun {i j ci cj} hi h hc hp hj h' hc' hp' => by
      have : OwnS (L2.wipe σ vs) ρb p := ⟨j, cj, h', hc', by rw [wipe_out hj]; exact hp'⟩
      rcases st.own p this with z | z
      · exact nown hi h hc hp z
      · obtain ⟨q, o, e1, e2, e3, e4⟩ := S1.own i ci h hc
        rw [hp] at e1; cases e1
        rw [e3] at z; cases z
    rcases unw_some h1 with ⟨a, b⟩ | ⟨a, b⟩ <;> rcases unw_some h2 with ⟨a', b'⟩ | ⟨a', b'⟩
    · exact S1.sep i j ci cj p b b' h3 h4 h5 h6
    · exact (mix a b h3 h5 a' b' h4 h6).elim
    · exact (mix a' b' h4 h6 a b h3 h5).elim
    · exact S.sep i j ci cj p b b' h3 h4 (by rw [wipe_out a]; exact h5) (by rw [wipe_out a']; exact h6)
theorem ownS_unw {p : Addr} (h : OwnS σ (unw ρ1 ρb vs) p) : OwnS σ ρ1 p ∨ OwnS (L2.wipe σ vs) ρb p := by
  obtain ⟨i, c, h1, h2, h3⟩ := h
  rcases unw_some h1 with ⟨a, b⟩ | ⟨a, b⟩
  · exact .inl ⟨i, c, b, h2, h3⟩
  · exact .inr ⟨i, c, b, h2, by rw [wipe_out a]; exact h3⟩
theorem Stp.unwipe (st : Stp pn (L2.wipe σ vs) (wipE ρ1 vs) F1 H1 (L2.wipe σ vs) ρb F H) : Stp (fun _ => true) σ ρ1 F1 H1 σ (unw ρ1 ρb vs) F H := by
  refine ⟨st.mono, fun p o h n => st.keep p o h fun q => n (ownS_wipe q).1, fun p o h n e => st.free p o h (fun q => n (ownS_wipe q).1) e, fun p q => ?_, fun _ _ => rfl, st.thr, rfl⟩
  rcases ownS_unw q with z | z
  · exact .inl z
  · rcases st.own p z with y | y
    · exact .inl (ownS_wipe y).1
    · exact .inr y

/-- no exception is awaited in a comprehension's block -/
abbrev W0 : WX := fun _ _ _ _ => False
theorem ev_lc {wi : TI} {g : TG} {tt : TT} {te : TE} {xi : En → Ou (List D)} {gx : D → En → Ou Unit} {tx : En → Ou Bool} {ex : En → Ou R} (hi : EvI K cl W wi xi) (hg : EvG K cl (pnB vs) W0 g gx) (ht : EvT K cl W0 tt tx) (he : EvE K cl W0 te ex) :
    EvE K cl W (tLc wi g tt te vs) (xLc xi gx tx ex vs) := by
  intro F σ H ρ Q S q
  refine hi F σ H ρ _ S ?_
  unfold xLc at q
  cases e : xi ρ with
  | st => rw [e] at q; exact q
  | er y ρ' => rw [e] at q; exact q
  | ok items ρ1 =>
    rw [e, Ou.bn_ok] at q
    intro J F1 H1 S1 s1 it Dl hD
    -- what is known behind i turns
    refine ⟨fun i m H2 => m = items.length - i ∧ i ≤ items.length ∧ ∃ F2 ρ2 acc ds, (∀ a o, F1 a = some o → F2 a = some o) ∧ Sta K cl F2 (L2.wipe σ vs) H2 (wipE ρ2 vs) ∧ Stp (fun _ => true) (L2.wipe σ vs) (wipE ρ1 vs) F1 H1 (L2.wipe σ vs) (wipE ρ2 vs) F2 H2 ∧
        H2 Dl = some (.lst acc) ∧ F2 Dl = none ∧ RepL K cl F2 acc ds ∧ ¬ OwnS (L2.wipe σ vs) (wipE ρ2 vs) Dl ∧ PstE K cl W Q σ ρ F H ((noEr (lcL gx tx ex vs (items.drop i) ds (wipE ρ2 vs))).bn fun ds ρb => .ok (.o (.L ds)) (unw ρ1 ρb vs)), ⟨items.length, rfl, Nat.zero_le _, ?_⟩, ?_⟩
    · have g : Grow F1 H1 F1 (upd H1 Dl (.lst [])) := Grow.new S1.sub hD
      have Sw := S1.wipe vs
      refine ⟨F1, ρ1, [], [], fun _ _ h => h, g.sta Sw, g.stp, upd_same, sub_none S1.sub hD, RepL.nil, fun z => ?_, q⟩
      obtain ⟨i, c, a1, a2, a3⟩ := z
      obtain ⟨p, o, e1, e2, e3, e4⟩ := Sw.own i c a1 a2
      rw [a3] at e1; cases e1
      rw [hD] at e3; cases e3
    · rintro i m H2 ⟨rfl, hi', F2, ρ2, acc, ds, m2, S2, s2, hDl, fDl, rl, nD, q2⟩
      by_cases hlt : i < items.length
      · refine .inr ?_
        have ei : items[i]? = some items[i] := by simp [hlt]
        obtain ⟨g0, gy⟩ := it.go F2 H2 i items[i] m2 (stands (S1.wipe vs) s2) S2.sub ei
        refine ⟨g0, fun H2 => (i + 1 ≤ items.length ∧ ∃ F2 ρ2 acc ds, (∀ a o, F1 a = some o → F2 a = some o) ∧ Sta K cl F2 (L2.wipe σ vs) H2 (wipE ρ2 vs) ∧ Stp (fun _ => true) (L2.wipe σ vs) (wipE ρ1 vs) F1 H1 (L2.wipe σ vs) (wipE ρ2 vs) F2 H2 ∧
          H2 Dl = some (.lst acc) ∧ F2 Dl = none ∧ RepL K cl F2 acc ds ∧ ¬ OwnS (L2.wipe σ vs) (wipE ρ2 vs) Dl ∧ PstE K cl W Q σ ρ F H ((noEr (lcL gx tx ex vs (items.drop (i + 1)) ds (wipE ρ2 vs))).bn fun ds ρb => .ok (.o (.L ds)) (unw ρ1 ρb vs))), fun H' n => ⟨items.length - (i + 1), by omega, rfl, n.1, n.2⟩, fun x H' y => ?_⟩
        obtain ⟨F3, gr, rx⟩ := gy x H' y
        have S3 := gr.sta S2
        have s3 : Stp (pnB vs) (L2.wipe σ vs) (wipE ρ2 vs) F2 H2 (L2.wipe σ vs) (wipE ρ2 vs) F3 H' := gr.stp (pn := pnB vs)
        have ed : items.drop i = items[i] :: items.drop (i + 1) := by rw [List.drop_eq_getElem_cons hlt]
        rw [ed] at q2
        unfold lcL at q2
        refine hg F3 (L2.wipe σ vs) H' (wipE ρ2 vs) x items[i] _ S3 rx ?_
        cases e3 : gx items[i] (wipE ρ2 vs) with
        | st => rw [e3] at q2; exact q2
        | er y' ρ' => rw [e3] at q2; exact q2.elim
        | ok u ρ3 =>
          rw [e3, Ou.bn_ok] at q2
          intro σ4 F4 H4 S4 s4
          have s34 := s3.trans s4
          -- the block's slots but its own are as they were
          have wq : L2.wipe σ4 vs = L2.wipe σ vs := by
            have := wipe_eq (σ1 := σ4) (σ := L2.wipe σ vs) (vs := vs) s4.len fun i hi => s4.pin i (by unfold pnB; simp [hi])
            rw [this, wipe_wipe]
          refine ⟨by rw [wq], ?_⟩
          -- from the block's slots back to the outer's
          have back : ∀ {F5 : Hp} {H5 : Hp} {ρ5 : En}, Sta K cl F5 σ4 H5 ρ5 → Stp (pnB vs) (L2.wipe σ vs) (wipE ρ2 vs) F2 H2 σ4 ρ5 F5 H5 → Sta K cl F5 (L2.wipe σ vs) H5 (wipE ρ5 vs) ∧ Stp (fun _ => true) (L2.wipe σ vs) (wipE ρ1 vs) F1 H1 (L2.wipe σ vs) (wipE ρ5 vs) F5 H5 ∧
              H5 Dl = some (.lst acc) ∧ F5 Dl = none ∧ ¬ OwnS (L2.wipe σ vs) (wipE ρ5 vs) Dl ∧ ¬ OwnS σ4 ρ5 Dl := fun {F5 H5 ρ5} S5 s5 => by
            have S6 := S5.wipe vs
            rw [wq] at S6
            have low : ∀ p, OwnS (L2.wipe σ vs) (wipE ρ5 vs) p → OwnS σ4 ρ5 p := fun p z => by
              rw [← wq] at z
              exact (ownS_wipe z).1
            have nd : ¬ OwnS σ4 ρ5 Dl := fun z => by
              rcases s5.own Dl z with y | y
              · exact nD y
              · rw [hDl] at y; cases y
            refine ⟨S6, s2.trans ⟨s5.mono, s5.keep, s5.free, fun p z => s5.own p (low p z), fun _ _ => rfl, s5.thr, rfl⟩, s5.keep Dl _ hDl nD, (s5.free Dl _ hDl nD fDl).resolve_right (fun z => nomatch z), fun z => nd (low Dl z), nd⟩
          have mm : ∀ {F5 : Hp} {H5 : Hp} {ρ5 : En}, Stp (pnB vs) (L2.wipe σ vs) (wipE ρ2 vs) F2 H2 σ4 ρ5 F5 H5 → ∀ a o, F1 a = some o → F5 a = some o := fun s5 a o h => s5.mono a o (m2 a o h)
          have idm : ∀ (ρ : En), wipE (wipE ρ vs) vs = wipE ρ vs := fun ρ => by
            have aux : ∀ (ws us : List Nat), (∀ w ∈ ws, w ∈ us) → wipE (wipE ρ us) ws = wipE ρ us := by
              intro ws
              induction ws with
              | nil => intro us _; rfl
              | cons w ws ih =>
                intro us hw
                show (wipE (wipE ρ us) ws).set w none = _
                rw [ih us fun z hz => hw z (List.mem_cons_of_mem _ hz)]
                have hmem : w ∈ us := hw w List.mem_cons_self
                apply List.ext_getElem?
                intro j
                by_cases hj : w = j
                · subst hj
                  by_cases hb : w < (wipE ρ us).length
                  · rw [List.getElem?_set_self hb]
                    cases q : (wipE ρ us)[w]? with
                    | none => rw [List.getElem?_eq_none_iff] at q; omega
                    | some o =>
                      cases o with
                      | none => rfl
                      | some c => exact absurd hmem (wipE_some q).2
                  · rw [List.getElem?_eq_none (by simpa using hb), List.getElem?_eq_none (by omega)]
                · rw [List.getElem?_set_ne hj]
            exact aux vs vs fun _ h => h
          refine ht F4 σ4 H4 ρ3 _ S4 ?_
          cases e4 : tx ρ3 with
          | st => rw [e4] at q2; exact q2.elim
          | er y' ρ' => rw [e4] at q2; exact q2.elim
          | ok c ρ4 =>
            rw [e4, Ou.bn_ok] at q2
            intro F5 H5 S5 s5
            have s35 := s34.trans (s5.wk (pn := pnB vs))
            cases c with
            | false =>
              rw [if_neg (by decide)] at q2
              show _ ∧ _
              obtain ⟨b1, b2, b3, b4, b5, _⟩ := back S5 s35
              exact ⟨hlt, F5, ρ4, acc, ds, mm s35, b1, b2, b3, b4, rl.mono s35.mono, b5, q2⟩
            | true =>
              rw [if_pos rfl] at q2
              rw [if_pos rfl]
              refine he.val F5 σ4 H5 ρ4 _ S5 ?_
              cases e5 : vl ex ρ4 with
              | st => rw [e5] at q2; exact q2.elim
              | er y' ρ' => rw [e5] at q2; exact q2.elim
              | ok yd ρ5 =>
                rw [e5, Ou.bn_ok] at q2
                intro z F6 H6 S6 s6 rz
                have s36 := s35.trans (s6.wk (pn := pnB vs))
                obtain ⟨b1, b2, b3, b4, b5, b6⟩ := back S6 s36
                by_cases hz : ds.length < sizeLine
                · rw [if_pos hz] at q2
                  refine ⟨acc, b3, by rw [rl.1]; exact hz, hlt, F6, ρ5, acc ++ [z], ds ++ [yd], mm s36, ?_, ?_, upd_same, b4, (rl.mono s36.mono).append (RepL.one rz), b5, q2⟩
                  · -- the new list has grown: nothing else knows it
                    refine ⟨fun a o h => ?_, b1.len, b1.val, fun i c h hc => ?_, b1.sep⟩
                    · have na : a ≠ Dl := fun z => by rw [z, b4] at h; cases h
                      rw [upd_ne na]
                      exact b1.sub a o h
                    · obtain ⟨p, o, e1, e2, e3, e4⟩ := b1.own i c h hc
                      have np : p ≠ Dl := fun z => b5 ⟨i, c, h, hc, by rw [← z]; exact e1⟩
                      exact ⟨p, o, e1, e2, by rw [upd_ne np]; exact e3, e4⟩
                  · have nk : ∀ p o, H1 p = some o → p ≠ Dl := fun p o h z => by rw [z, hD] at h; cases h
                    refine ⟨b2.mono, fun p o h n => by rw [upd_ne (nk p o h)]; exact b2.keep p o h n, b2.free, b2.own, fun _ _ => rfl, fun p o h => ?_, rfl⟩
                    obtain ⟨o', e'⟩ := b2.thr p o h
                    exact ⟨o', by rw [upd_ne (nk p o h)]; exact e'⟩
                · rw [if_neg hz] at q2; exact q2.elim
      · have ei : i = items.length := by omega
        subst ei
        refine .inl ⟨it.stop F2 H2 m2 (stands (S1.wipe vs) s2) S2.sub, ?_⟩
        rw [List.drop_length] at q2
        have q3 : PstE K cl W Q σ ρ F H (.ok (.o (.L ds)) (unw ρ1 (wipE ρ2 vs) vs)) := q2
        have Su := S1.unwipe S2 s2
        have su := s1.trans (s2.unwipe (ρ1 := ρ1))
        refine q3 _ F2 H2 Su su ⟨Dl, .lst acc, rfl, rfl, fDl, hDl, ⟨acc, rfl, rl⟩, fun z => ?_, .inr (s1.non0 hD)⟩
        rcases ownS_unw z with y | y
        · obtain ⟨i, c, a1, a2, a3⟩ := y
          obtain ⟨p, o, e1, e2, e3, e4⟩ := S1.own i c a1 a2
          rw [a3] at e1; cases e1
          rw [hD] at e3; cases e3
        · exact nD y
end
end Dm
end TxtDm9

section TxtDm10
set_option Elab.async false
set_option linter.all false
set_option maxRecDepth 100000
/-! Dm10: defs, calls. -/
namespace Dm
open PySem PySem.Spec PyProof.Rows L2

section
variable {cl : Str → Option Addr} {pn : Nat → Bool} {X : Cx} {tg e : Expr} {ex : En → Ou R} {pos : Pos} {xi : En → Ou (List D)} {gx : D → En → Ou Unit}
def ETs (cl : Str → Option Addr) (X : Cx) (es : List Expr) (ex : En → Ou Bool) : Prop := ∀ W, Takes X W → ∃ t, PTs X es t ∧ EvT X.K cl W t ex
theorem ets_nil : ETs cl X [] tTrue := fun W tk => ⟨_, pts_nil, fun F σ H ρ Q S q => q F H S Stp.refl⟩
theorem ets_one {tx : En → Ou Bool} (h : ET cl X e tx) : ETs cl X [e] tx := fun W tk => let ⟨_, p, v⟩ := h W tk; ⟨_, pts_one p, v⟩
theorem ee_lc {elt iter : Expr} {ifs : List Expr} {scope : Scope} (own : List (Str × Nat)) {tx : En → Ou Bool} (hc : X.calm = true) (hN : X.N.Nodup) (hi : EI cl X tg iter xi) (ok : BlkOk X.N X.env.scope scope own)
    (hg : ∀ (s : Shared) (H : Hp) (C : Addr) (cls : List (Str × Addr)) (fp : List Addr), EG cl (pnB (own.map (·.2))) (X.blk s H scope (compEnvC scope cls C X.env) fp) tg gx)
    (ht : ∀ (s : Shared) (H : Hp) (C : Addr) (cls : List (Str × Addr)) (fp : List Addr), ETs cl (X.blk s H scope (compEnvC scope cls C X.env) fp) ifs tx)
    (he : ∀ (s : Shared) (H : Hp) (C : Addr) (cls : List (Str × Addr)) (fp : List Addr), EE cl (X.blk s H scope (compEnvC scope cls C X.env) fp) elt ex) (hs : ∀ x, foldedSetIterable iter X.env x = pure x := by intro _; rfl) :
    EE cl X (.ListComp elt [⟨tg, iter, ifs, 0⟩] scope pos) (xLc xi gx tx ex (own.map (·.2))) := fun W tk => by
  obtain ⟨wi, pi, vi⟩ := hi W tk
  have hg' := fun (b : Shared × Hp × Addr × List (Str × Addr) × List Addr) => hg b.1 b.2.1 b.2.2.1 b.2.2.2.1 b.2.2.2.2 W0 takes0
  have ht' := fun (b : Shared × Hp × Addr × List (Str × Addr) × List Addr) => ht b.1 b.2.1 b.2.2.1 b.2.2.2.1 b.2.2.2.2 W0 takes0
  have he' := fun (b : Shared × Hp × Addr × List (Str × Addr) × List Addr) => he b.1 b.2.1 b.2.2.1 b.2.2.2.1 b.2.2.2.2 W0 takes0
  obtain ⟨gf, hgf⟩ := Classical.axiomOfChoice hg'
  obtain ⟨tf, htf⟩ := Classical.axiomOfChoice ht'
  obtain ⟨ef, hef⟩ := Classical.axiomOfChoice he'
  refine ⟨_, pe_lc (g := fun x σ H Q => ∀ b, gf b x σ H Q) (tt := fun σ H Q => ∀ b, tf b σ H Q) (te := fun σ H Q => ∀ b, ef b σ H Q) hc hN pi ok
    (fun s H C cls fp => ⟨fun pins s' σ H' v u Q I r h => (hgf (s, H, C, cls, fp)).1.run pins s' σ H' v u Q I r (h _)⟩)
    (fun s H C cls fp => ⟨fun pins s' σ H' Q I h => (htf (s, H, C, cls, fp)).1.run pins s' σ H' Q I (h _)⟩)
    (fun s H C cls fp => ⟨fun pins s' σ H' Q I h => (hef (s, H, C, cls, fp)).1.run pins s' σ H' Q I (h _)⟩) hs, ?_⟩
  exact ev_lc (K := X.K) vi (fun F σ H ρ x d Q S r q b => (hgf b).2 F σ H ρ x d Q S r q) (fun F σ H ρ Q S q b => (htf b).2 F σ H ρ Q S q) (fun F σ H ρ Q S q b => (hef b).2 F σ H ρ Q S q)
/-- y = [..] on one line, y a local -/
theorem es_setLc {y : Str} {py spos : Pos} {elt iter : Expr} {ifs : List Expr} {scope : Scope} (i : Nat) (own : List (Str × Nat)) {tx : En → Ou Bool} (hc : X.calm = true) (hN : X.N.Nodup) (hi : EI cl X tg iter xi) (ok : BlkOk X.N X.env.scope scope own)
    (hg : ∀ (s : Shared) (H : Hp) (C : Addr) (cls : List (Str × Addr)) (fp : List Addr), EG cl (pnB (own.map (·.2))) (X.blk s H scope (compEnvC scope cls C X.env) fp) tg gx)
    (ht : ∀ (s : Shared) (H : Hp) (C : Addr) (cls : List (Str × Addr)) (fp : List Addr), ETs cl (X.blk s H scope (compEnvC scope cls C X.env) fp) ifs tx)
    (he : ∀ (s : Shared) (H : Hp) (C : Addr) (cls : List (Str × Addr)) (fp : List Addr), EE cl (X.blk s H scope (compEnvC scope cls C X.env) fp) elt ex) (hp : pn i = false := by rfl)
    (hy : X.N[i]? = some y := by rfl) (hyl : X.env.scope.names.lookup y = some .local := by rfl)
    (hsw : swapsWith (.ListComp elt [⟨tg, iter, ifs, 0⟩] scope pos) (some (.Name y py)) spos.line X.env = pure true := by exact sw_true rfl rfl rfl (by decide +kernel)) (hs : ∀ x, foldedSetIterable iter X.env x = pure x := by intro _; rfl) :
    ES cl pn X (.Assign [.Name y py] (.ListComp elt [⟨tg, iter, ifs, 0⟩] scope pos) spos) (sAsg i (xLc xi gx tx ex (own.map (·.2)))) := fun W tk => by
  obtain ⟨wi, pi, vi⟩ := hi W tk
  have hg' := fun (b : Shared × Hp × Addr × List (Str × Addr) × List Addr) => hg b.1 b.2.1 b.2.2.1 b.2.2.2.1 b.2.2.2.2 W0 takes0
  have ht' := fun (b : Shared × Hp × Addr × List (Str × Addr) × List Addr) => ht b.1 b.2.1 b.2.2.1 b.2.2.2.1 b.2.2.2.2 W0 takes0
  have he' := fun (b : Shared × Hp × Addr × List (Str × Addr) × List Addr) => he b.1 b.2.1 b.2.2.1 b.2.2.2.1 b.2.2.2.2 W0 takes0
  obtain ⟨gf, hgf⟩ := Classical.axiomOfChoice hg'
  obtain ⟨tf, htf⟩ := Classical.axiomOfChoice ht'
  obtain ⟨ef, hef⟩ := Classical.axiomOfChoice he'
  refine ⟨_, ps_setLc (g := fun x σ H Q => ∀ b, gf b x σ H Q) (tt := fun σ H Q => ∀ b, tf b σ H Q) (te := fun σ H Q => ∀ b, ef b σ H Q) hc hN hy hyl hsw pi ok
    (fun s H C cls fp => ⟨fun pins s' σ H' v u Q I r h => (hgf (s, H, C, cls, fp)).1.run pins s' σ H' v u Q I r (h _)⟩)
    (fun s H C cls fp => ⟨fun pins s' σ H' Q I h => (htf (s, H, C, cls, fp)).1.run pins s' σ H' Q I (h _)⟩)
    (fun s H C cls fp => ⟨fun pins s' σ H' Q I h => (hef (s, H, C, cls, fp)).1.run pins s' σ H' Q I (h _)⟩) hs, ?_⟩
  exact ev_asg hp (ev_lc (K := X.K) vi (fun F σ H ρ x d Q S r q b => (hgf b).2 F σ H ρ x d Q S r q) (fun F σ H ρ Q S q b => (htf b).2 F σ H ρ Q S q) (fun F σ H ρ Q S q b => (hef b).2 F σ H ρ Q S q))
end

/-! ### a def's contract -/
abbrev Fm := En → Ou R
section
variable (K : PySem.W.Frag) (cl : Str → Option Addr)
def PstF (Q : VK) (E : XK) (vs : List V) (ρ : En) (F H : Hp) : Ou R → Prop
  | .ok r ρ' => ∀ x F' H', Sta K cl F' (vs.map some) H' ρ' → Stp (fun _ => true) (vs.map some) ρ F H (vs.map some) ρ' F' H' → RelR K cl (vs.map some) ρ H (vs.map some) ρ' F' H' x r → Q x H'
  | .er e ρ' => ∀ c d F' H', Sta K cl F' (vs.map some) H' ρ' → Stp (fun _ => true) (vs.map some) ρ F H (vs.map some) ρ' F' H' → ErrOk K cl F' e c d → E c d H'
  | .st => False
def spM (n : Nat) (m : Fm) : Sp := fun vs H Q E => vs.length = n ∧ ∃ F ρ, Sta K cl F (vs.map some) H ρ ∧ PstF K cl Q E vs ρ F H (m ρ)
end
/-- what the caller gets back in its slots -/
def fin (n : Nat) (pn : Nat → Bool) (ρ ρ' : En) : En := (List.range n).map fun i => if pn i then ρ'.getD i none else ρ.getD i none
def argOk (pn : Nat → Bool) (ρ : En) (i : Nat) : Bool := pn i || (match ρ.getD i none with
  | some (.v _) => true
  | _ => false)
def fnM (n N : Nat) (pn : Nat → Bool) (body : En → Ou Fl) : Fm := fun ρ =>
  if ρ.length = n ∧ (List.range n).all (argOk pn ρ) = true then (match body (ρ ++ List.replicate (N - n) none) with
    | .ok .nx ρ' => .ok (.v .non) (fin n pn ρ ρ')
    | .ok (.rt (.v d)) ρ' => .ok (.v d) (fin n pn ρ ρ')
    | .ok (.rt (.o c)) ρ' => .ok (.o c) (fin n pn ρ ρ')
    | .er e ρ' => .er e (fin n pn ρ ρ')
    | _ => .st) else .st
section
variable {K : PySem.W.Frag} {cl : Str → Option Addr} {F F' F1 F2 H H' H1 H2 H0 : Hp} {σ σ1 σ2 σ0 : L2.St} {ρ ρ0 ρ1 ρ2 ρb : En} {pn : Nat → Bool} {v x : V} {d : D} {W : WX}
theorem app_some {α : Type} {a : List (Option α)} {k i : Nat} {c : α} (h : (a ++ List.replicate k none)[i]? = some (some c)) : i < a.length ∧ a[i]? = some (some c) := by
  by_cases hi : i < a.length
  · rw [List.getElem?_append_left hi] at h; exact ⟨hi, h⟩
  · rw [List.getElem?_append_right (by omega), List.getElem?_replicate] at h
    split at h <;> cases h
theorem Sta.extend {vs : List V} {N : List Str} {k : Nat} (S : Sta K cl F (vs.map some) H ρ) (hk : k = N.length - vs.length) : Sta K cl F (start N vs) H (ρ ++ List.replicate k none) := by
  have hl : ρ.length = vs.length := by have := S.len; simpa using this
  have e1 : ∀ {i : Nat}, i < vs.length → (start N vs)[i]? = (vs.map some)[i]? := fun {i} hi => by
    unfold L2.start
    rw [List.getElem?_append_left (by simpa using hi)]
  refine ⟨S.sub, by unfold L2.start; simp [hl, hk], fun i d h => ?_, fun i c h hc => ?_, fun i j ci cj p h1 h2 h3 h4 h5 h6 => ?_⟩
  · obtain ⟨a, b⟩ := app_some h
    rw [e1 (by omega)]
    exact S.val i d b
  · obtain ⟨a, b⟩ := app_some h
    rw [e1 (by omega)]
    exact S.own i c b hc
  · obtain ⟨a, b⟩ := app_some h1
    obtain ⟨a', b'⟩ := app_some h2
    rw [e1 (by omega)] at h5 h6
    exact S.sep i j ci cj p b b' h3 h4 h5 h6
theorem fin_get {n i : Nat} (hi : i < n) : (fin n pn ρ ρ1)[i]? = some (if pn i then ρ1.getD i none else ρ.getD i none) := by
  unfold fin
  rw [List.getElem?_map, List.getElem?_range hi]
  rfl
theorem fin_length {n : Nat} : (fin n pn ρ ρ1).length = n := by simp [fin]
theorem getD_some {α : Type} {l : List (Option α)} {i : Nat} {c : α} (h : l.getD i none = some c) : l[i]? = some (some c) := by
  rw [List.getD_eq_getElem?_getD] at h
  cases q : l[i]? with
  | none => rw [q] at h; cases h
  | some o => rw [q] at h; exact congrArg some h
theorem fin_some {n i : Nat} {c : C} (h : (fin n pn ρ ρ1)[i]? = some (some c)) : i < n ∧ ((pn i = true ∧ ρ1[i]? = some (some c)) ∨ (pn i = false ∧ ρ[i]? = some (some c))) := by
  have hi : i < n := by
    have := (List.getElem?_eq_some_iff.mp h).1
    simpa [fin] using this
  rw [fin_get hi] at h
  refine ⟨hi, ?_⟩
  have h := Option.some.inj h
  split at h
  · rename_i hp; exact .inl ⟨hp, getD_some h⟩
  · rename_i hp; exact .inr ⟨by simpa using hp, getD_some h⟩
theorem arg_v {n i : Nat} {c : C} (h : (List.range n).all (argOk pn ρ) = true) (hi : i < n) (hp : pn i = false) (e : ρ[i]? = some (some c)) : c.own = false := by
  rw [List.all_eq_true] at h
  have := h i (List.mem_range.mpr hi)
  unfold argOk at this
  rw [hp, Bool.false_or, List.getD_eq_getElem?_getD, e] at this
  cases c with
  | v d => rfl
  | _ => cases this
/-- room, and no repr under way -/
structure Rm (k : Nat) (A : Around) : Prop where
  room : Room k A
  g : A.guards = some []
theorem Rm.mono {j k : Nat} {A : Around} (r : Rm k A) (h : j ≤ k) : Rm j A := ⟨r.room.mono h, r.g⟩
theorem Rm.deeper {k : Nat} {A : Around} (r : Rm (k + 1) A) (env : Env) : Rm k (A.deeper env) := ⟨r.room.deeper env, r.g⟩
/-- a def's promise where no repr is under way -/
structure FnG (P : Program) (w : World) (K : PySem.W.Frag) (mg : Str → Option Value) (base : Heap) (CX : CXT) (k : Nat) (f : Addr) (fd : FuncData) (ps : List Str) (sp : Sp) : Prop where
  len : ∀ vs H Q E, sp vs H Q E → vs.length = ps.length
  run : ∀ (A : Around) (outer : List Env) (s : Shared) (H : Hp) (args : Args) (us : List Value) (vs : List V) (Q : VK) (E : XK), Rm k A → Env0 P w K mg base A outer s H → BindsTo s fd args (ps.zip us) → Vals vs us → sp vs H Q E →
    codeAny (model P w) A (.call (.ref f) args) (CR CX outer P w H s Q E) s
theorem fnG_of {CX : CXT} {P : Program} {w : World} {K : PySem.W.Frag} {mg : Str → Option Value} {base : Heap} {k : Nat} {f : Addr} {name qual : Str} {params : Arguments} {body : List Stmt} {scope : Scope} {dV kV doc pm cdv ct oc : Value} {an od : Option Addr}
    {osl : Array (Option Value)} {N ps : List Str} {sp : Sp} (lk : K.lookup f = some ⟨oc, od, .func (PySem.W.fnOf name qual params body scope dV kV doc pm an cdv ct), osl⟩) (hcd : PySem.W.codeIn K cdv qual = true) (S : FnScope N ps scope)
    (len : ∀ vs H Q E, sp vs H Q E → vs.length = ps.length)
    (hbody : ∀ (A : Around) (outer : List Env) (s : Shared) (H : Hp) (vs : List V) (Q : VK) (E : XK), Rm k (A.deeper (envOfC qual scope s.heap.objs.size f cdv)) → sp vs H Q E →
      ∃ t, PSs (cxOf CX P w K mg base N qual scope f cdv A outer s H E) body t ∧ t { nx := fun _ H' => Q .non H', rt := Q } (start N vs) H) :
    FnG P w K mg base CX (k + 1) f (PySem.W.fnOf name qual params body scope dV kV doc pm an cdv ct) ps sp := by
  refine ⟨len, fun A outer s H args us vs Q E hr e0 hb r hsp => ?_⟩
  have hl := len _ _ _ _ hsp
  have KX : K.In s.heap := e0.mod.kin.keeps fun b o e => (e0.bs b o e).1
  have lim : s.heap.NoLimit := e0.mod.nolimit.keeps fun b o e => (e0.bs b o e).1
  have hkind : ∀ y ∈ ps.zip us, scope.names.lookup y.1 = some .local ∨ (scope.names.lookup y.1 = some .cell ∧ ((cellsFrom (s.heap.objs.size + 1) scope.names []).lookup y.1).isSome = true) := fun ⟨n, v⟩ hy =>
    (S.par n (List.of_mem_zip hy).1).imp id fun q => ⟨q, PySem.W.cellsFrom_some _ _ _ (.inl q)⟩
  refine codeAny_call_function hr.room.depth (KX _ _ lk) rfl S.co S.gen rfl (PySem.W.codeRec_of KX hcd) (hb _ _ _ _ (wpAny_newFunctionEnv_cells S.kind hkind fun env he s1 x => ?_))
  subst he
  refine ⟨lim.keeps x.toInCall.keep, codeAny_func ?_⟩
  obtain ⟨t, ht, hq⟩ := hbody A outer s H vs Q E (hr.deeper _) hsp
  have I : Inv (cxOf CX P w K mg base N qual scope f cdv A outer s H E) [] (start N vs) H s1 := inv_start S hr.room.hd e0 hl r x
  refine wpAny_mono (ht.run [] s1 (start N vs) H _ I hq) (fun fl s' hs => ?_) fun e s' hs => hs
  have fin : ∀ {σ' : L2.St} {H' : Hp} {v : V} {u : Value}, Inv (cxOf CX P w K mg base N qual scope f cdv A outer s H E) [] σ' H' s' → RelV v u → Q v H' → CE outer P w H s Q u s' :=
    fun {σ' H' v u} J rv q => ⟨v, H', J.os, J.bare, J.base, J.hok, rv, q⟩
  cases fl with
  | ret u => obtain ⟨v, σ', H', J, rv, q⟩ := hs; exact fin J rv q
  | next => obtain ⟨σ', H', J, q⟩ := hs; exact fin (v := V.non) (u := Value.none) J rfl q
  | brk => obtain ⟨_, _, _, q⟩ := hs; exact False.elim q
  | cont => obtain ⟨_, _, _, q⟩ := hs; exact False.elim q
/-- a def as it stands behind the top, with any defaults -/
structure FunX (K : PySem.W.Frag) (x qual : Str) (st : Stmt) (f : Addr) (fd : FuncData) : Prop where
  ex : ∃ (oc : Value) (od : Option Addr) (dV kV doc pm : Value) (an : Option Addr) (cdv ct : Value) (osl : Array (Option Value)),
    fd = PySem.W.fnOf x qual (defArgs st) (defBody st) (defScope st) dV kV doc pm an cdv ct ∧ K.lookup f = some ⟨oc, od, .func fd, osl⟩ ∧ PySem.W.codeIn K cdv qual = true
  kp : PySem.W.keepIn K (.ref f) = true
theorem Fun.toX {K : PySem.W.Frag} {x qual : Str} {st : Stmt} {f : Addr} {fd : FuncData} (F : Fun K x qual st f fd) : FunX K x qual st f fd := by
  obtain ⟨oc, od, kV, doc, pm, an, cdv, ct, osl, e, lk, hcd⟩ := F.ex
  exact ⟨⟨oc, od, .none, kV, doc, pm, an, cdv, ct, osl, e, lk, hcd⟩, F.kp⟩
/-- THE RULE: a def by its body -/
theorem fn_okX {P : Program} {w : World} {mg : Str → Option Value} {base : Heap} {x qual : Str} {st : Stmt} {f : Addr} {fd : FuncData} {N ps : List Str} {k : Nat} {body : En → Ou Fl} (G : FunX K x qual st f fd) (S : FnScope N ps (defScope st)) (n M : Nat) (hn : n = ps.length) (hM : M = N.length)
    (hb : ∀ (cdv : Value) (A : Around) (outer : List Env) (s : Shared) (H : Hp) (E : XK), Rm k (A.deeper (envOfC qual (defScope st) s.heap.objs.size f cdv)) → ESs cl pn (cxOf (L2.CX P w) P w K mg base N qual (defScope st) f cdv A outer s H E) (defBody st) body) :
    FnG P w K mg base (L2.CX P w) (k + 1) f fd ps (spM K cl n (fnM n M pn body)) := by
  subst hn; subst hM
  obtain ⟨oc, od, dV, kV, doc, pm, an, cdv, ct, osl, rfl, lk, hcd⟩ := G.ex
  refine fnG_of lk hcd S (fun vs H Q E h => h.1) (fun A outer s H vs Q E hr h => ?_)
  obtain ⟨hl, F, ρ, Sa, q⟩ := h
  have hb' := hb cdv A outer s H E hr (fun cls d _ H => E cls d H) (takes_of rfl rfl rfl rfl)
  obtain ⟨t, p, v⟩ := hb'
  refine ⟨t, p, ?_⟩
  unfold fnM at q
  by_cases hq : ρ.length = ps.length ∧ (List.range ps.length).all (argOk pn ρ) = true
  · rw [if_pos hq] at q
    have hle : vs.length = ps.length := hl
    have S0 : Sta K cl F (start N vs) H (ρ ++ List.replicate (N.length - ps.length) none) := Sa.extend (by rw [hle])
    refine v F (start N vs) H _ _ S0 ?_
    have est : ∀ {i : Nat}, i < ps.length → (start N vs)[i]? = (vs.map some)[i]? := fun {i} hi => by
      unfold L2.start
      rw [List.getElem?_append_left (by simpa [hl] using hi)]
    -- what the body leaves is what the caller gets
    have own0 : ∀ p, OwnS (start N vs) (ρ ++ List.replicate (N.length - ps.length) none) p → OwnS (vs.map some) ρ p := fun p ⟨i, c, h1, h2, h3⟩ => by
      obtain ⟨a, b⟩ := app_some h1
      exact ⟨i, c, b, h2, by rw [← est (by omega)]; exact h3⟩
    have back : ∀ {σ' : L2.St} {F' H' : Hp} {ρ' : En}, Sta K cl F' σ' H' ρ' → Stp pn (start N vs) (ρ ++ List.replicate (N.length - ps.length) none) F H σ' ρ' F' H' →
        Sta K cl F' (vs.map some) H' (fin ps.length pn ρ ρ') ∧ Stp (fun _ => true) (vs.map some) ρ F H (vs.map some) (fin ps.length pn ρ ρ') F' H' ∧ ∀ p, OwnS (vs.map some) (fin ps.length pn ρ ρ') p → OwnS σ' ρ' p := fun {σ' F' H' ρ'} S' s' => by
      have epin : ∀ {i : Nat}, i < ps.length → pn i = true → σ'[i]? = (vs.map some)[i]? := fun {i} hi hp => (s'.pin i hp).trans (est hi)
      have low : ∀ p, OwnS (vs.map some) (fin ps.length pn ρ ρ') p → OwnS σ' ρ' p := fun p ⟨i, c, h1, h2, h3⟩ => by
        obtain ⟨hi, z⟩ := fin_some h1
        rcases z with ⟨hp, z⟩ | ⟨hp, z⟩
        · exact ⟨i, c, z, h2, by rw [epin hi hp]; exact h3⟩
        · rw [arg_v hq.2 hi hp z] at h2; cases h2
      refine ⟨⟨S'.sub, by rw [fin_length]; simp [hl], fun i d h => ?_, fun i c h hc => ?_, fun i j ci cj p h1 h2 h3 h4 h5 h6 => ?_⟩, ⟨s'.mono, fun p o h nn => s'.keep p o h fun z => nn (own0 p z), fun p o h nn e => s'.free p o h (fun z => nn (own0 p z)) e, fun p z => ?_, fun _ _ => rfl, s'.thr, rfl⟩, low⟩
      · obtain ⟨hi, z⟩ := fin_some h
        rcases z with ⟨hp, z⟩ | ⟨hp, z⟩
        · rw [← epin hi hp]; exact S'.val i d z
        · obtain ⟨y, e, r⟩ := Sa.val i d z
          exact ⟨y, e, r.mono s'.mono⟩
      · obtain ⟨hi, z⟩ := fin_some h
        rcases z with ⟨hp, z⟩ | ⟨hp, z⟩
        · rw [← epin hi hp]; exact S'.own i c z hc
        · rw [arg_v hq.2 hi hp z] at hc; cases hc
      · obtain ⟨hi, z⟩ := fin_some h1
        obtain ⟨hj, z'⟩ := fin_some h2
        rcases z with ⟨hp, z⟩ | ⟨hp, z⟩
        · rcases z' with ⟨hp', z'⟩ | ⟨hp', z'⟩
          · exact S'.sep i j ci cj p z z' h3 h4 (by rw [epin hi hp]; exact h5) (by rw [epin hj hp']; exact h6)
          · rw [arg_v hq.2 hj hp' z'] at h4; cases h4
        · rw [arg_v hq.2 hi hp z] at h3; cases h3
      · rcases s'.own p (low p z) with y | y
        · exact .inl (own0 p y)
        · exact .inr y
    have rel : ∀ {σ' : L2.St} {F' H' : Hp} {ρ' : En} {x : V} {r : R}, (∀ p, OwnS (vs.map some) (fin ps.length pn ρ ρ') p → OwnS σ' ρ' p) → (∀ i, r ≠ .s i) → RelR K cl (start N vs) (ρ ++ List.replicate (N.length - ps.length) none) H σ' ρ' F' H' x r → RelR K cl (vs.map some) ρ H (vs.map some) (fin ps.length pn ρ ρ') F' H' x r := fun {σ' F' H' ρ' x r} low nr h => by
      cases r with
      | v d => exact h
      | s i => exact absurd rfl (nr i)
      | o c =>
        obtain ⟨p, o, e, h1, h2, h3, h4, h5, h6⟩ := h
        exact ⟨p, o, e, h1, h2, h3, h4, fun z => h5 (low p z), h6.imp (own0 p) id⟩
    cases e : body (ρ ++ List.replicate (N.length - ps.length) none) with
    | st => rw [e] at q; exact q
    | er y ρ' => rw [e] at q; exact fun c d σ' F' H' S' s' er => let ⟨a, b, _⟩ := back S' s'; q c d F' H' a b er
    | ok fl ρ' =>
      rw [e] at q
      cases fl with
      | nx => exact fun σ' F' H' S' s' => let ⟨a, b, _⟩ := back S' s'; q .non F' H' a b .non
      | bk => exact q.elim
      | ct => exact q.elim
      | rt r =>
        cases r with
        | s i => exact q.elim
        | v d => exact fun x σ' F' H' S' s' rr => let ⟨a, b, l⟩ := back S' s'; q x F' H' a b (rel l (fun i z => by cases z) rr)
        | o c => exact fun x σ' F' H' S' s' rr => let ⟨a, b, l⟩ := back S' s'; q x F' H' a b (rel l (fun i z => by cases z) rr)
  · rw [if_neg hq] at q; exact q.elim
theorem fn_ok {P : Program} {w : World} {mg : Str → Option Value} {base : Heap} {x qual : Str} {st : Stmt} {f : Addr} {fd : FuncData} {N ps : List Str} {k : Nat} {body : En → Ou Fl} (G : Fun K x qual st f fd) (S : FnScope N ps (defScope st)) (n M : Nat) (hn : n = ps.length) (hM : M = N.length)
    (hb : ∀ (cdv : Value) (A : Around) (outer : List Env) (s : Shared) (H : Hp) (E : XK), Rm k (A.deeper (envOfC qual (defScope st) s.heap.objs.size f cdv)) → ESs cl pn (cxOf (L2.CX P w) P w K mg base N qual (defScope st) f cdv A outer s H E) (defBody st) body) :
    FnG P w K mg base (L2.CX P w) (k + 1) f fd ps (spM K cl n (fnM n M pn body)) := fn_okX (pn := pn) (Fun.toX G) S n M hn hM hb
end
end Dm
end TxtDm10

section TxtDm11
set_option Elab.async false
set_option linter.all false
set_option maxRecDepth 100000
/-! Dm11: calls of defs, of methods, of classes. -/
namespace Dm
open PySem PySem.Spec PyProof.Rows L2

/-- arguments: a value, or what slot i owns -/
abbrev Ar := Sum D Nat
def gNil : En → Ou (List Ar) := fun ρ => .ok [] ρ
def gVal (e : En → Ou R) (r : En → Ou (List Ar)) : En → Ou (List Ar) := fun ρ => (vl e ρ).bn fun d ρ1 => (r ρ1).bn fun as ρ2 => .ok (.inl d :: as) ρ2
def gIo (i : Nat) (r : En → Ou (List Ar)) : En → Ou (List Ar) := fun ρ => match ρ[i]? with
  | some (some c) => if c.own then (r ρ).bn fun as ρ2 => .ok (.inr i :: as) ρ2 else .st
  | _ => .st
def conts (ρ : En) : List Ar → Option En
  | [] => some []
  | .inl d :: as => (conts ρ as).map fun r => some (.v d) :: r
  | .inr i :: as => match ρ[i]? with
    | some (some c) => if c.own then (conts ρ as).map fun r => some c :: r else none
    | _ => none
def ioOf : List Ar → List Nat
  | [] => []
  | .inl _ :: as => ioOf as
  | .inr i :: as => i :: ioOf as
def backs : List Ar → En → En → En
  | [], _, ρ => ρ
  | .inl _ :: as, _ :: os, ρ => backs as os ρ
  | .inr i :: as, o :: os, ρ => backs as os (ρ.set i o)
  | _, [], ρ => ρ
/-- what a def called with these arguments does -/
def calM (m : Fm) (as : List Ar) (ρ : En) : Ou R := match conts ρ as with
  | some cs => if (ioOf as).Nodup then (match m cs with
    | .ok r os => if os.length = cs.length then .ok r (backs as os ρ) else .st
    | .er e os => if os.length = cs.length then .er e (backs as os ρ) else .st
    | .st => .st) else .st
  | none => .st
def xCall (m : Fm) (dd : List D) (a : En → Ou (List Ar)) : En → Ou R := fun ρ => (a ρ).bn fun as ρ1 => calM m (as ++ dd.map .inl) ρ1
def xCal (m : Fm) (a : En → Ou (List Ar)) : En → Ou R := fun ρ => (a ρ).bn fun as ρ1 => calM m as ρ1
section
variable {K : PySem.W.Frag} {cl : Str → Option Addr} {F F' F1 F2 H H' H1 H2 H0 : Hp} {σ σ1 σ2 σ0 : L2.St} {ρ ρ0 ρ1 ρ2 ρb : En} {pn : Nat → Bool} {v x : V} {d : D} {W : WX}
inductive RelA (K : PySem.W.Frag) (cl : Str → Option Addr) (F : Hp) (σ : L2.St) : List V → List Ar → Prop
  | nil : RelA K cl F σ [] []
  | inl {x : V} {d : D} {xs : List V} {as : List Ar} (h : Rep K cl F x d) (r : RelA K cl F σ xs as) : RelA K cl F σ (x :: xs) (.inl d :: as)
  | inr {x : V} {i : Nat} {xs : List V} {as : List Ar} (h : σ[i]? = some (some x)) (r : RelA K cl F σ xs as) : RelA K cl F σ (x :: xs) (.inr i :: as)
theorem RelA.mono {xs : List V} {as : List Ar} (m : ∀ a o, F a = some o → F' a = some o) (h : RelA K cl F σ xs as) : RelA K cl F' σ xs as := by
  induction h with
  | nil => exact .nil
  | inl h r ih => exact .inl (h.mono m) ih
  | inr h r ih => exact .inr h ih
theorem RelA.app {xs ys : List V} {as bs : List Ar} (h : RelA K cl F σ xs as) (h2 : RelA K cl F σ ys bs) : RelA K cl F σ (xs ++ ys) (as ++ bs) := by
  induction h with
  | nil => exact h2
  | inl h r ih => exact .inl h ih
  | inr h r ih => exact .inr h ih
theorem RelA.vals {xs : List V} {ds : List D} (h : RepL K cl F xs ds) : RelA K cl F σ xs (ds.map .inl) :=
  h.ind (P := fun xs ds => RelA K cl F σ xs (ds.map .inl)) .nil fun v d vs ds r _ ih => .inl r ih
def PstL (K : PySem.W.Frag) (cl : Str → Option Addr) (W : WX) (Q : List V → Hp → Prop) (σ : L2.St) (ρ : En) (F H : Hp) : Ou (List Ar) → Prop
  | .ok as ρ' => ∀ xs F' H', Sta K cl F' σ H' ρ' → Stp (fun _ => true) σ ρ F H σ ρ' F' H' → RelA K cl F' σ xs as → Q xs H'
  | .er e ρ' => ∀ c d F' H', Sta K cl F' σ H' ρ' → Stp (fun _ => true) σ ρ F H σ ρ' F' H' → ErrOk K cl F' e c d → W c d σ H'
  | .st => False
def EvL (K : PySem.W.Frag) (cl : Str → Option Addr) (W : WX) (tt : TA) (ex : En → Ou (List Ar)) : Prop := ∀ F σ H ρ Q, Sta K cl F σ H ρ → PstL K cl W Q σ ρ F H (ex ρ) → tt σ H Q
theorem ev_gNil : EvL K cl W tNil gNil := fun F σ H ρ Q S q => q [] F H S Stp.refl .nil
theorem ev_gVal {ta : TE} {tr : TA} {ea : En → Ou R} {er : En → Ou (List Ar)} (ha : EvE K cl W ta ea) (hr : EvL K cl W tr er) : EvL K cl W (tCons ta tr) (gVal ea er) := by
  intro F σ H ρ Q S q
  refine ha.val.then (P := PstL K cl W Q σ ρ F H) S q (fun z => z) (fun _ _ z => z) fun d ρ1 q x F1 H1 S1 s1 rel => ?_
  refine hr F1 σ H1 ρ1 _ S1 ?_
  cases e : er ρ1 with
  | st => rw [e] at q; exact q
  | er y ρ' => rw [e] at q; exact fun c d F' H' S' s' er => q c d F' H' S' (s1.trans s') er
  | ok as ρ2 => rw [e] at q; exact fun xs F2 H2 S2 s2 r => q (x :: xs) F2 H2 S2 (s1.trans s2) (.inl (rel.mono s2.mono) r)
theorem ev_gIo {tr : TA} {i : Nat} {er : En → Ou (List Ar)} (hr : EvL K cl W tr er) : EvL K cl W (tCons (tVar i) tr) (gIo i er) := by
  intro F σ H ρ Q S q
  unfold gIo at q
  cases e : ρ[i]? with
  | none => rw [e] at q; exact q.elim
  | some oc =>
    cases oc with
    | none => rw [e] at q; exact q.elim
    | some c =>
      rw [e] at q
      simp only at q
      cases hc : c.own with
      | false => rw [hc] at q; exact q.elim
      | true =>
        rw [hc, if_pos rfl] at q
        obtain ⟨p, o, e1, e2, e3, e4⟩ := S.own i c e hc
        refine ⟨_, e1, hr F σ H ρ _ S ?_⟩
        cases e' : er ρ with
        | st => rw [e'] at q; exact q
        | er y ρ' => rw [e'] at q; exact q
        | ok as ρ2 => rw [e'] at q; exact fun xs F2 H2 S2 s2 r => q _ F2 H2 S2 s2 (.inr e1 r)
/-- the contents that the callee gets -/
theorem conts_ok {xs : List V} {as : List Ar} (r : RelA K cl F σ xs as) : ∀ {cs : En}, conts ρ as = some cs → cs.length = xs.length ∧
    (∀ (j : Nat) d, cs[j]? = some (some (.v d)) → ∃ y, xs[j]? = some y ∧ Rep K cl F y d) ∧
    (∀ (j : Nat) c, cs[j]? = some (some c) → c.own = true → ∃ (i : Nat) (y : V), as[j]? = some (.inr i) ∧ xs[j]? = some y ∧ σ[i]? = some (some y) ∧ ρ[i]? = some (some c)) := by
  induction r with
  | nil =>
    intro cs e
    cases e
    exact ⟨rfl, fun j d h => by simp at h, fun j c h => by simp at h⟩
  | @inl x d xs as h r ih =>
    intro cs e
    obtain ⟨cs', e1, rfl⟩ := Option.map_eq_some_iff.mp (show (conts ρ as).map (fun r => some (C.v d) :: r) = some cs from e)
    obtain ⟨h1, h2, h3⟩ := ih e1
    refine ⟨by simp [h1], fun j d' hj => ?_, fun j c hj hc => ?_⟩
    · cases j with
      | zero => simp at hj; subst hj; exact ⟨x, rfl, h⟩
      | succ j => exact h2 j d' (by simpa using hj)
    · cases j with
      | zero => simp at hj; subst hj; cases hc
      | succ j => exact h3 j c (by simpa using hj) hc
  | @inr x i xs as h r ih =>
    intro cs e
    unfold conts at e
    cases q : ρ[i]? with
    | none => rw [q] at e; cases e
    | some oc =>
      cases oc with
      | none => rw [q] at e; cases e
      | some c0 =>
        rw [q] at e
        simp only at e
        cases hc0 : c0.own with
        | false => rw [hc0] at e; cases e
        | true =>
          rw [hc0, if_pos rfl] at e
          obtain ⟨cs', e1, rfl⟩ := Option.map_eq_some_iff.mp e
          obtain ⟨h1, h2, h3⟩ := ih e1
          refine ⟨by simp [h1], fun j d' hj => ?_, fun j c hj hc => ?_⟩
          · cases j with
            | zero => simp at hj; subst hj; cases hc0
            | succ j => exact h2 j d' (by simpa using hj)
          · cases j with
            | zero => simp at hj; subst hj; exact ⟨i, x, rfl, rfl, h, q⟩
            | succ j => exact h3 j c (by simpa using hj) hc
theorem ioOf_mem {as : List Ar} {j i : Nat} (h : as[j]? = some (.inr i)) : i ∈ ioOf as := by
  induction as generalizing j with
  | nil => simp at h
  | cons a as ih =>
    cases j with
    | zero => simp at h; subst h; exact List.mem_cons_self
    | succ j =>
      have := ih (by simpa using h)
      cases a with
      | inl d => exact this
      | inr k => exact List.mem_cons_of_mem _ this
theorem ioOf_inj {as : List Ar} {j k i : Nat} (n : (ioOf as).Nodup) (h : as[j]? = some (.inr i)) (h' : as[k]? = some (.inr i)) : j = k := by
  induction as generalizing j k with
  | nil => simp at h
  | cons a as ih =>
    cases a with
    | inl d =>
      cases j with
      | zero => simp at h
      | succ j => cases k with
        | zero => simp at h'
        | succ k => exact congrArg Nat.succ (ih n (by simpa using h) (by simpa using h'))
    | inr u =>
      obtain ⟨n1, n2⟩ := List.nodup_cons.mp n
      cases j with
      | zero =>
        simp at h
        subst h
        cases k with
        | zero => rfl
        | succ k => exact absurd (ioOf_mem (by simpa using h')) n1
      | succ j =>
        cases k with
        | zero =>
          simp at h'
          subst h'
          exact absurd (ioOf_mem (by simpa using h)) n1
        | succ k => exact congrArg Nat.succ (ih n2 (by simpa using h) (by simpa using h'))
/-- behind the call: a slot is an argument's, with its new content, or as it was -/
theorem backs_some {as : List Ar} : ∀ {os ρ : En} {i : Nat} {c : C}, (ioOf as).Nodup → os.length = as.length → (backs as os ρ)[i]? = some (some c) → (∃ j : Nat, as[j]? = some (.inr i) ∧ os[j]? = some (some c)) ∨ (i ∉ ioOf as ∧ ρ[i]? = some (some c)) := by
  induction as with
  | nil => intro os ρ i c n l h; exact .inr ⟨by simp [ioOf], h⟩
  | cons a as ih =>
    intro os ρ i c n l h
    cases os with
    | nil => simp at l
    | cons o os =>
      cases a with
      | inl d =>
        rcases ih (ρ := ρ) n (by simpa using l) h with ⟨j, a1, a2⟩ | ⟨a1, a2⟩
        · exact .inl ⟨j + 1, by simpa using a1, by simpa using a2⟩
        · exact .inr ⟨a1, a2⟩
      | inr k =>
        obtain ⟨n1, n2⟩ := List.nodup_cons.mp n
        rcases ih (ρ := ρ.set k o) n2 (by simpa using l) h with ⟨j, a1, a2⟩ | ⟨a1, a2⟩
        · exact .inl ⟨j + 1, by simpa using a1, by simpa using a2⟩
        · rcases get_set_some a2 with ⟨e, z⟩ | ⟨ne, z⟩
          · subst e; exact .inl ⟨0, rfl, by simp [z]⟩
          · exact .inr ⟨fun m => (List.mem_cons.mp m).elim (fun z => ne z.symm) a1, z⟩
theorem backs_length {as : List Ar} : ∀ {os ρ : En}, (backs as os ρ).length = ρ.length := by
  induction as with
  | nil => intro os ρ; rfl
  | cons a as ih =>
    intro os ρ
    cases os with
    | nil => cases a <;> rfl
    | cons o os =>
      cases a with
      | inl d => exact ih
      | inr k => show (backs as os (ρ.set k o)).length = _; rw [ih, List.length_set]
theorem RelA.length {xs : List V} {as : List Ar} (h : RelA K cl F σ xs as) : xs.length = as.length := by
  induction h with
  | nil => rfl
  | inl h r ih => simp [ih]
  | inr h r ih => simp [ih]
theorem RelA.io {xs : List V} {as : List Ar} (h : RelA K cl F σ xs as) {j i : Nat} (e : as[j]? = some (.inr i)) : ∃ y, xs[j]? = some y ∧ σ[i]? = some (some y) := by
  induction h generalizing j with
  | nil => simp at e
  | @inl x d xs as h r ih =>
    cases j with
    | zero => simp at e
    | succ j => simpa using ih (by simpa using e)
  | @inr x k xs as h r ih =>
    cases j with
    | zero => simp at e; subst e; exact ⟨x, rfl, h⟩
    | succ j => simpa using ih (by simpa using e)
/-- from the caller's state the callee's -/
theorem conts_sta {xs : List V} {as : List Ar} {cs : En} (S : Sta K cl F σ H ρ) (r : RelA K cl F σ xs as) (e : conts ρ as = some cs) (n : (ioOf as).Nodup) : Sta K cl F (xs.map some) H cs := by
  obtain ⟨h1, h2, h3⟩ := conts_ok r e
  refine ⟨S.sub, by simp [h1], fun j d hj => ?_, fun j c hj hc => ?_, fun j k cj ck p a1 a2 a3 a4 a5 a6 => ?_⟩
  · obtain ⟨y, e1, e2⟩ := h2 j d hj
    exact ⟨y, by simp [e1], e2⟩
  · obtain ⟨i, y, b1, b2, b3, b4⟩ := h3 j c hj hc
    obtain ⟨p, o, e1, e2, e3, e4⟩ := S.own i c b4 hc
    rw [b3] at e1; cases e1
    exact ⟨p, o, by simp [b2], e2, e3, e4⟩
  · obtain ⟨i, y, b1, b2, b3, b4⟩ := h3 j cj a1 a3
    obtain ⟨i', y', b1', b2', b3', b4'⟩ := h3 k ck a2 a4
    rw [List.getElem?_map, b2] at a5
    rw [List.getElem?_map, b2'] at a6
    cases a5; cases a6
    have := S.sep i i' cj ck p b4 b4' a3 a4 b3 b3'
    subst this
    exact ioOf_inj n b1 b1'
/-- .. and back -/
theorem call_back {xs : List V} {as : List Ar} {cs os : En} (S : Sta K cl F σ H ρ) (r : RelA K cl F σ xs as) (e : conts ρ as = some cs) (n : (ioOf as).Nodup) (hl : os.length = cs.length)
    (S' : Sta K cl F' (xs.map some) H' os) (s' : Stp (fun _ => true) (xs.map some) cs F H (xs.map some) os F' H') :
    Sta K cl F' σ H' (backs as os ρ) ∧ Stp (fun _ => true) σ ρ F H σ (backs as os ρ) F' H' ∧ ∀ x r, (∀ i, r ≠ R.s i) → RelR K cl (xs.map some) cs H (xs.map some) os F' H' x r → RelR K cl σ ρ H σ (backs as os ρ) F' H' x r := by
  obtain ⟨h1, h2, h3⟩ := conts_ok r e
  have hla : os.length = as.length := by rw [hl, h1, r.length]
  -- what the callee owned at the entry is an argument's
  have ownC : ∀ p, OwnS (xs.map some) cs p → ∃ (j i : Nat) (c : C), as[j]? = some (.inr i) ∧ ρ[i]? = some (some c) ∧ c.own = true ∧ σ[i]? = some (some (.ref p)) := fun p ⟨j, c, a1, a2, a3⟩ => by
    obtain ⟨i, y, b1, b2, b3, b4⟩ := h3 j c a1 a2
    rw [List.getElem?_map, b2] at a3
    cases a3
    exact ⟨j, i, c, b1, b4, a2, b3⟩
  have up : ∀ p, OwnS (xs.map some) cs p → OwnS σ ρ p := fun p z => by
    obtain ⟨j, i, c, b1, b2, b3, b4⟩ := ownC p z
    exact ⟨i, c, b2, b3, b4⟩
  -- another slot's own thing is not the callee's
  have other : ∀ {i : Nat} {c : C} {p : Addr}, i ∉ ioOf as → ρ[i]? = some (some c) → c.own = true → σ[i]? = some (some (.ref p)) → ¬ OwnS (xs.map some) cs p := fun {i c p} hi hc ho hp z => by
    obtain ⟨j, i', c', b1, b2, b3, b4⟩ := ownC p z
    have := S.sep i i' c c' p hc b2 ho b3 hp b4
    subst this
    exact hi (ioOf_mem b1)
  -- an argument's slot behind the call
  have arg : ∀ {i : Nat} {c : C} {j : Nat}, as[j]? = some (.inr i) → os[j]? = some (some c) → ∃ y, xs[j]? = some y ∧ σ[i]? = some (some y) := fun {i c j} a _ => r.io a
  have ownB : ∀ p, OwnS σ (backs as os ρ) p → OwnS (xs.map some) os p ∨ ∃ (i : Nat) (c : C), i ∉ ioOf as ∧ ρ[i]? = some (some c) ∧ c.own = true ∧ σ[i]? = some (some (.ref p)) := fun p ⟨i, c, a1, a2, a3⟩ => by
    rcases backs_some n hla a1 with ⟨j, b1, b2⟩ | ⟨b1, b2⟩
    · obtain ⟨y, c1, c2⟩ := arg b1 b2
      rw [a3] at c2; cases c2
      exact .inl ⟨j, c, b2, a2, by simp [c1]⟩
    · exact .inr ⟨i, c, b1, b2, a2, a3⟩
  refine ⟨⟨S'.sub, by rw [backs_length]; exact S.len, fun i d h => ?_, fun i c h hc => ?_, fun i k ci ck p a1 a2 a3 a4 a5 a6 => ?_⟩, ⟨s'.mono, fun p o h nn => s'.keep p o h fun z => nn (up p z), fun p o h nn e => s'.free p o h (fun z => nn (up p z)) e, fun p z => ?_, fun _ _ => rfl, s'.thr, rfl⟩, fun x r nr h => ?_⟩
  · rcases backs_some n hla h with ⟨j, b1, b2⟩ | ⟨b1, b2⟩
    · obtain ⟨y, c1, c2⟩ := arg b1 b2
      obtain ⟨y', e1, e2⟩ := S'.val j d b2
      rw [List.getElem?_map, c1] at e1
      cases e1
      exact ⟨y, c2, e2⟩
    · obtain ⟨y, e1, e2⟩ := S.val i d b2
      exact ⟨y, e1, e2.mono s'.mono⟩
  · rcases backs_some n hla h with ⟨j, b1, b2⟩ | ⟨b1, b2⟩
    · obtain ⟨y, c1, c2⟩ := arg b1 b2
      obtain ⟨p, o, e1, e2, e3, e4⟩ := S'.own j c b2 hc
      rw [List.getElem?_map, c1] at e1
      cases e1
      exact ⟨p, o, c2, e2, e3, e4⟩
    · obtain ⟨p, o, e1, e2, e3, e4⟩ := S.own i c b2 hc
      have nn := other b1 b2 hc e1
      exact ⟨p, o, e1, (s'.free p o e3 nn e2).resolve_right (e4.ns hc), s'.keep p o e3 nn, e4.mono s'.mono⟩
  · have mix : ∀ {i k j : Nat} {ci ck : C}, as[j]? = some (.inr i) → os[j]? = some (some ci) → ci.own = true → σ[i]? = some (some (.ref p)) → k ∉ ioOf as → ρ[k]? = some (some ck) → ck.own = true → σ[k]? = some (some (.ref p)) → False := fun {i k j ci ck} b1 b2 hc hp hk hk2 hc' hp' => by
      obtain ⟨y, c1, c2⟩ := arg b1 b2
      rw [hp] at c2; cases c2
      have z : OwnS (xs.map some) os p := ⟨j, ci, b2, hc, by simp [c1]⟩
      rcases s'.own p z with y | y
      · exact other hk hk2 hc' hp' y
      · obtain ⟨q, o, e1, e2, e3, e4⟩ := S.own k ck hk2 hc'
        rw [hp'] at e1; cases e1
        rw [e3] at y; cases y
    rcases backs_some n hla a1 with ⟨j, b1, b2⟩ | ⟨b1, b2⟩ <;> rcases backs_some n hla a2 with ⟨j', b1', b2'⟩ | ⟨b1', b2'⟩
    · obtain ⟨y, c1, c2⟩ := arg b1 b2
      obtain ⟨y', c1', c2'⟩ := arg b1' b2'
      rw [a5] at c2; cases c2
      rw [a6] at c2'; cases c2'
      have := S'.sep j j' ci ck p b2 b2' a3 a4 (by simp [c1]) (by simp [c1'])
      subst this
      rw [b1] at b1'; cases b1'; rfl
    · exact (mix b1 b2 a3 a5 b1' b2' a4 a6).elim
    · exact (mix b1' b2' a4 a6 b1 b2 a3 a5).elim
    · exact S.sep i k ci ck p b2 b2' a3 a4 a5 a6
  · rcases ownB p z with y | ⟨i, c, b1, b2, b3, b4⟩
    · rcases s'.own p y with u | u
      · exact .inl (up p u)
      · exact .inr u
    · exact .inl ⟨i, c, b2, b3, b4⟩
  · cases r with
    | v d => exact h
    | s i => exact absurd rfl (nr i)
    | o c =>
      obtain ⟨p, o, e1, h1', h2', h3', h4, h5, h6⟩ := h
      refine ⟨p, o, e1, h1', h2', h3', h4, fun z => ?_, h6.imp (up p) id⟩
      rcases ownB p z with y | ⟨i, c', b1, b2, b3, b4⟩
      · exact h5 y
      · rcases h6 with u | u
        · exact other b1 b2 b3 b4 u
        · obtain ⟨q, o', e1, e2, e3, e4⟩ := S.own i c' b2 b3
          rw [b4] at e1; cases e1
          rw [e3] at u; cases u
def Fm.Ok (m : Fm) : Prop := ∀ ρ r ρ', m ρ = .ok r ρ' → ∀ i, r ≠ .s i
/-- the callee's contract met -/
theorem cal_run {m : Fm} {n : Nat} {xs : List V} {as : List Ar} {Q : VK} (hm : m.Ok) (S : Sta K cl F σ H ρ) (r : RelA K cl F σ xs as) (hn : as.length = n) (q : PstE K cl W Q σ ρ F H (calM m as ρ)) : spM K cl n m xs H Q (fun c d H' => W c d σ H') := by
  refine ⟨by rw [r.length]; exact hn, F, ?_⟩
  unfold calM at q
  cases e : conts ρ as with
  | none => rw [e] at q; exact q.elim
  | some cs =>
    rw [e] at q
    simp only at q
    by_cases nd : (ioOf as).Nodup
    · rw [if_pos nd] at q
      refine ⟨cs, conts_sta S r e nd, ?_⟩
      cases e2 : m cs with
      | st => rw [e2] at q; exact q
      | er y os =>
        rw [e2] at q
        simp only at q
        by_cases hl : os.length = cs.length
        · rw [if_pos hl] at q
          exact fun c d F' H' S' s' er => let ⟨a, b, _⟩ := call_back S r e nd hl S' s'; q c d F' H' a b er
        · rw [if_neg hl] at q; exact q.elim
      | ok x os =>
        rw [e2] at q
        simp only at q
        by_cases hl : os.length = cs.length
        · rw [if_pos hl] at q
          exact fun y F' H' S' s' rr => let ⟨a, b, c⟩ := call_back S r e nd hl S' s'; q y F' H' a b (c y x (hm cs x os e2) rr)
        · rw [if_neg hl] at q; exact q.elim
    · rw [if_neg nd] at q; exact q.elim
theorem fnM_ok {n N : Nat} {body : En → Ou Fl} : Fm.Ok (fnM n N pn body) := by
  intro ρ r ρ' h i e
  subst e
  unfold fnM at h
  split at h
  · split at h <;> cases h
  · cases h
end
section
variable {X : Cx} {CX : CXT} {k : Nat} {f : Addr} {fd : FuncData} {ps : List Str} {sp : Sp} {dvs : List V} {ds : List Value} {E : L2.St → XK} {x : Str} {p pos : Pos} {e : Expr} {es : List Expr} {t : TA}
theorem run_fnG {pins : List (Addr × Obj)} {σ : L2.St} {H : Hp} {s : Shared} {Q : VK} {us : List Value} {vs : List V} (F : FnG X.prog X.w X.K X.mg X.base CX k f fd ps sp) (hr : Rm k X.A) (hb : Binds X.K fd ps ds) (hd : Vals dvs ds) (hx : PassesAt CX X σ (E σ))
    (I : Inv X pins σ H s) (r : Vals vs us) (h : sp (vs ++ dvs) H Q (E σ)) : wpAny (model X.prog X.w) X.A (call (.ref f) us) (EP X pins σ Q) X.xe s := by
  have r2 : Vals (vs ++ dvs) (us ++ ds) := r.append hd
  have hl : (us ++ ds).length = ps.length := by rw [← r2.length]; exact F.len _ _ _ _ h
  refine wpAny_call (codeAny_mono (F.run X.A X.stack s H ⟨us, []⟩ (us ++ ds) (vs ++ dvs) Q (E σ) hr I.env0 (hb s us I.kIn hl) r2 h) fun r s' hq => ?_)
  cases r with
  | error e => exact hx pins H s e s' I hq
  | ok fl =>
    cases fl with
    | ret u => exact I.after hq
    | _ => exact False.elim hq
theorem pe_callG (F : FnG X.prog X.w X.K X.mg X.base CX k f fd ps sp) (hr : Rm k X.A) (hg : Gl X x) (hm : X.mg x = some (.ref f)) (hk : PySem.W.keepIn X.K (.ref f) = true) (hb : Binds X.K fd ps ds) (hd : Vals dvs ds) (hx : ∀ σ, PassesAt CX X σ (E σ))
    (ha : PA X (e :: es) t) (hdb : (x == ("__debug__" : Str)) = false := by decide) (he : starEach (e :: es) X.env = (false, eval e X.env) :: starEach es X.env := by rfl) (hpl : (backTo pos (starEach es X.env)).any (·.1) = false := by rfl) :
    PE X (.Call (.Name x p) (e :: es) [] pos) (tCallSD sp dvs E t) := by
  refine ⟨fun pins s σ H Q I h => ?_⟩
  refine wpAny_Call_Name_kw (ld_glob I hg hm ?_ hdb)
  refine PySem.W.callWith_K (h₀ := X.base) I.ok.mod.kin hk (thn (ha.run pos pins s σ H _ I h) fun us s1 ⟨vs, H1, I1, r, q⟩ => ⟨I1.kIn, ?_⟩) he hpl
  exact run_fnG F hr hb hd (hx σ) I1 r q
end
def EL (cl : Str → Option Addr) (X : Cx) (es : List Expr) (ex : En → Ou (List Ar)) : Prop := ∀ W, Takes X W → ∃ t, PA X es t ∧ EvL X.K cl W t ex
/-- a def of the text, as its callers know it -/
structure Cal (P : Program) (w : World) (K : PySem.W.Frag) (mg : Str → Option Value) (base : Heap) (cl : Str → Option Addr) (x : Str) (k n : Nat) (m : Fm) (f : Addr) (fd : FuncData) (ps : List Str) : Prop where
  fn : FnG P w K mg base (L2.CX P w) k f fd ps (spM K cl n m)
  mg : mg x = some (.ref f)
  kp : PySem.W.keepIn K (.ref f) = true
  len : ps.length = n
  ok : m.Ok
  b : Binds K fd ps []
section
variable {cl : Str → Option Addr} {X : Cx} {e : Expr} {es : List Expr} {ea : En → Ou R} {er : En → Ou (List Ar)} {pos p : Pos} {x : Str} {k j n : Nat} {m : Fm} {f : Addr} {fd : FuncData} {ps : List Str} {ds : List Value} {dvs : List V} {dd : List D}
theorem el_nil : EL cl X [] gNil := fun W tk => ⟨_, pa_nil, ev_gNil⟩
theorem el_val (ha : EE cl X e ea) (hr : EL cl X es er) (hs : starEach (e :: es) X.env = (false, eval e X.env) :: starEach es X.env := by rfl) : EL cl X (e :: es) (gVal ea er) := fun W tk =>
  let ⟨_, p, v⟩ := ha W tk; let ⟨_, p1, v1⟩ := hr W tk; ⟨_, pa_cons p p1 hs, ev_gVal v v1⟩
theorem el_io (i : Nat) (hr : EL cl X es er) (hs : starEach (.Name x pos :: es) X.env = (false, eval (.Name x pos) X.env) :: starEach es X.env := by rfl) (hN : X.N[i]? = some x := by rfl) (hv : Vis X.env.scope x := by first | exact Or.inl rfl | exact Or.inr (Or.inl rfl) | exact Or.inr (Or.inr rfl))
    (hd : (x == ("__debug__" : Str)) = false := by decide) (hcd : (x == ("__classdict__" : Str)) = false := by decide) : EL cl X (.Name x pos :: es) (gIo i er) := fun W tk =>
  let ⟨_, p1, v1⟩ := hr W tk; ⟨_, pa_cons (pe_var hN hv hd hcd) p1 hs, ev_gIo v1⟩
theorem ev_call {K : PySem.W.Frag} {W : WX} {t : TA} {a : En → Ou (List Ar)} (hm : m.Ok) (hD : ∀ F, RepL K cl F dvs dd) (ha : EvL K cl W t a) (hn : ∀ ρ as ρ', a ρ = .ok as ρ' → as.length + dd.length = n) : EvE K cl W (tCallSD (spM K cl n m) dvs (WE W) t) (xCall m dd a) := by
  intro F σ H ρ Q S q
  refine ha F σ H ρ _ S ?_
  unfold xCall at q
  cases e : a ρ with
  | st => rw [e] at q; exact q
  | er y ρ' => rw [e] at q; exact q
  | ok as ρ1 =>
    rw [e, Ou.bn_ok] at q
    intro xs F1 H1 S1 s1 r
    exact cal_run hm S1 (r.app (RelA.vals (hD F1))) (by have := hn ρ as ρ1 e; simpa using this) (PstE.from s1 q)
end
/-- how many arguments -/
def gLen (n : Nat) (a : En → Ou (List Ar)) : Prop := ∀ ρ as ρ', a ρ = .ok as ρ' → as.length = n
theorem gLen_nil : gLen 0 gNil := fun ρ as ρ' h => by cases h; rfl
theorem gLen_val {n : Nat} {e : En → Ou R} {r : En → Ou (List Ar)} (h : gLen n r) : gLen (n + 1) (gVal e r) := fun ρ as ρ' q => by
  unfold gVal at q
  cases e1 : vl e ρ with
  | st => rw [e1] at q; cases q
  | er y ρ' => rw [e1] at q; cases q
  | ok d ρ1 =>
    rw [e1, Ou.bn_ok] at q
    cases e2 : r ρ1 with
    | st => rw [e2] at q; cases q
    | er y ρ' => rw [e2] at q; cases q
    | ok bs ρ2 => rw [e2] at q; cases q; simp [h ρ1 bs _ e2]
theorem gLen_io {n i : Nat} {r : En → Ou (List Ar)} (h : gLen n r) : gLen (n + 1) (gIo i r) := fun ρ as ρ' q => by
  unfold gIo at q
  split at q
  · split at q
    · cases e2 : r ρ with
      | st => rw [e2] at q; cases q
      | er y ρ' => rw [e2] at q; cases q
      | ok bs ρ2 => rw [e2] at q; cases q; simp [h ρ bs _ e2]
    · cases q
  · cases q
section
variable {cl : Str → Option Addr} {X : Cx} {e : Expr} {es : List Expr} {ea : En → Ou R} {er : En → Ou (List Ar)} {pos p : Pos} {x : Str} {k j n u : Nat} {m : Fm} {f : Addr} {fd : FuncData} {ps : List Str} {ds : List Value} {dvs : List V} {dd : List D}
/-- f(e, ..) -/
theorem ee_call (G : Cal X.prog X.w X.K X.mg X.base cl x k n m f fd ps) (hr : Rm j X.A) (ha : EL cl X (e :: es) er) (hu : gLen u er) (hb : Binds X.K fd ps ds) (hd : Vals dvs ds) (hD : ∀ F, RepL X.K cl F dvs dd) (hn : u + dd.length = n := by rfl) (hj : k ≤ j := by decide) (hg : Gl X x := by rfl)
    (hdb : (x == ("__debug__" : Str)) = false := by decide) (he : starEach (e :: es) X.env = (false, eval e X.env) :: starEach es X.env := by rfl) (hpl : (backTo pos (starEach es X.env)).any (·.1) = false := by rfl) : EE cl X (.Call (.Name x p) (e :: es) [] pos) (xCall m dd er) := fun W tk => by
  obtain ⟨t, pp, v⟩ := ha W tk
  exact ⟨_, pe_callG (E := WE W) G.fn (hr.mono hj) hg G.mg G.kp hb hd (fun σ => passAt tk σ) pp hdb he hpl, ev_call G.ok hD v fun ρ as ρ' h => by rw [hu ρ as ρ' h]; exact hn⟩
theorem ee_call0 (G : Cal X.prog X.w X.K X.mg X.base cl x k n m f fd ps) (hr : Rm j X.A) (hb : Binds X.K fd ps ds) (hd : Vals dvs ds) (hD : ∀ F, RepL X.K cl F dvs dd) (hn : dd.length = n := by rfl) (hj : k ≤ j := by decide) (hg : Gl X x := by rfl)
    (hdb : (x == ("__debug__" : Str)) = false := by decide) : EE cl X (.Call (.Name x p) [] [] pos) (xCall m dd gNil) := fun W tk => by
  refine ⟨tCallSD (spM X.K cl n m) dvs (WE W) tNil, ⟨fun pins s σ H Q I h => ?_⟩, ev_call G.ok hD ev_gNil fun ρ as ρ' h => by cases h; simpa using hn⟩
  refine wpAny_Call_Name_kw (ld_glob I hg G.mg ?_ hdb)
  exact PySem.W.callWith_K0 I.kIn G.kp (run_fnG (us := []) G.fn (hr.mono hj) hb hd (passAt tk σ) I .nil h)
theorem ee_cal (G : Cal X.prog X.w X.K X.mg X.base cl x k n m f fd ps) (hr : Rm j X.A) (ha : EL cl X (e :: es) er) (hu : gLen n er) (hj : k ≤ j := by decide) (hg : Gl X x := by rfl)
    (hdb : (x == ("__debug__" : Str)) = false := by decide) (he : starEach (e :: es) X.env = (false, eval e X.env) :: starEach es X.env := by rfl) (hpl : (backTo pos (starEach es X.env)).any (·.1) = false := by rfl) : EE cl X (.Call (.Name x p) (e :: es) [] pos) (xCal m er) := by
  have e1 : xCal m er = xCall m [] er := by
    funext ρ
    unfold xCal xCall
    simp
  rw [e1]
  exact ee_call G hr ha hu G.b .nil (fun _ => RepL.nil) rfl hj hg hdb he hpl
theorem ee_cal0 (G : Cal X.prog X.w X.K X.mg X.base cl x k 0 m f fd ps) (hr : Rm j X.A) (hj : k ≤ j := by decide) (hg : Gl X x := by rfl)
    (hdb : (x == ("__debug__" : Str)) = false := by decide) : EE cl X (.Call (.Name x p) [] [] pos) (xCal m gNil) := by
  have e1 : xCal m gNil = xCall m [] gNil := by
    funext ρ
    unfold xCal xCall
    simp
  rw [e1]
  exact ee_call0 G hr G.b .nil (fun _ => RepL.nil) rfl hj hg hdb
end
end Dm
end TxtDm11

section TxtDm12
set_option Elab.async false
set_option linter.all false
set_option maxRecDepth 100000
/-! Dm12: calls of built-in functions and types: their arguments are looked at. -/
namespace Dm
open PySem PySem.Spec PyProof.Rows L2

section
variable {K : PySem.W.Frag} {cl : Str → Option Addr} {F F' F1 F2 H H' H1 H2 H0 F0 : Hp} {σ σ1 σ2 σ0 : L2.St} {ρ ρ0 ρ1 ρ2 ρb : En} {pn : Nat → Bool} {v x : V} {d : D} {W : WX}
inductive RelRs (K : PySem.W.Frag) (cl : Str → Option Addr) (σ0 : L2.St) (ρ0 : En) (H0 : Hp) (σ : L2.St) (ρ : En) (F H : Hp) : List V → List R → Prop
  | nil : RelRs K cl σ0 ρ0 H0 σ ρ F H [] []
  | cons {x : V} {r : R} {xs : List V} {rs : List R} (h : RelR K cl σ0 ρ0 H0 σ ρ F H x r) (t : RelRs K cl σ0 ρ0 H0 σ ρ F H xs rs) : RelRs K cl σ0 ρ0 H0 σ ρ F H (x :: xs) (r :: rs)
theorem RelRs.from {xs : List V} {rs : List R} {σa : L2.St} {ρa : En} {Fa Ha F0 : Hp} (h : RelRs K cl σ0 ρ0 H0 σ ρ F H xs rs) (s : Stp pn σa ρa Fa Ha σ0 ρ0 F0 H0) : RelRs K cl σa ρa Ha σ ρ F H xs rs := by
  induction h with
  | nil => exact .nil
  | cons h t ih => exact .cons (h.from s) ih
def PstK (K : PySem.W.Frag) (cl : Str → Option Addr) (W : WX) (Q : List V → Hp → Prop) (σ : L2.St) (ρ : En) (F H : Hp) : Ou (List R) → Prop
  | .ok rs ρ' => ∀ xs F' H', Sta K cl F' σ H' ρ' → Stp (fun _ => true) σ ρ F H σ ρ' F' H' → RelRs K cl σ ρ H σ ρ' F' H' xs rs → Q xs H'
  | .er e ρ' => ∀ c d F' H', Sta K cl F' σ H' ρ' → Stp (fun _ => true) σ ρ F H σ ρ' F' H' → ErrOk K cl F' e c d → W c d σ H'
  | .st => False
def EvK (K : PySem.W.Frag) (cl : Str → Option Addr) (W : WX) (tt : TA) (ex : En → Ou (List R)) : Prop := ∀ F σ H ρ Q, Sta K cl F σ H ρ → PstK K cl W Q σ ρ F H (ex ρ) → tt σ H Q
def kNil : En → Ou (List R) := fun ρ => .ok [] ρ
def kCons (e : En → Ou R) (r : En → Ou (List R)) : En → Ou (List R) := fun ρ => (e ρ).bn fun a ρ1 => (r ρ1).bn fun as ρ2 => .ok (a :: as) ρ2
theorem ev_kNil : EvK K cl W tNil kNil := fun F σ H ρ Q S q => q [] F H S Stp.refl .nil
theorem ev_kCons {ta : TE} {tr : TA} {ea : En → Ou R} {er : En → Ou (List R)} (ha : EvE K cl W ta ea) (hr : EvK K cl W tr er) : EvK K cl W (tCons ta tr) (kCons ea er) := by
  intro F σ H ρ Q S q
  refine ha.then (P := PstK K cl W Q σ ρ F H) S q (fun z => z) (fun _ _ z => z) fun r ρ1 q x F1 H1 S1 s1 rel => ?_
  refine hr F1 σ H1 ρ1 _ S1 ?_
  cases e : er ρ1 with
  | st => rw [e] at q; exact q
  | er y ρ' => rw [e] at q; exact fun c d F' H' S' s' er => q c d F' H' S' (s1.trans s') er
  | ok as ρ2 => rw [e] at q; exact fun xs F2 H2 S2 s2 r => q (x :: xs) F2 H2 S2 (s1.trans s2) (.cons (rel.step s2) (r.from s1))
def pks (ρ : En) : List R → Option (List D)
  | [] => some []
  | r :: rs => match pk r ρ, pks ρ rs with
    | some d, some ds => some (d :: ds)
    | _, _ => none
def xB (f : List D → Option R) (a : En → Ou (List R)) : En → Ou R := fun ρ => (a ρ).bn fun rs ρ1 => match pks ρ1 rs with
  | some ds => (match f ds with
    | some r => .ok r ρ1
    | none => .st)
  | none => .st
inductive PkL (K : PySem.W.Frag) (cl : Str → Option Addr) (F H : Hp) : List V → List D → Prop
  | nil : PkL K cl F H [] []
  | cons {x : V} {d : D} {xs : List V} {ds : List D} (h : Pk K cl F H x d) (t : PkL K cl F H xs ds) : PkL K cl F H (x :: xs) (d :: ds)
def RSn (K : PySem.W.Frag) (cl : Str → Option Addr) (r : List V → Hp → VK → Prop) (f : List D → Option R) : Prop := ∀ F H xs ds out, Sub F H → PkL K cl F H xs ds → f ds = some out →
  ∀ Q : VK, (∀ z F' H', Grow F H F' H' → ResR K cl F H F' H' z out → Q z H') → r xs H Q
theorem pks_ok {xs : List V} {rs : List R} (S : Sta K cl F σ H ρ) (r : RelRs K cl σ0 ρ0 H0 σ ρ F H xs rs) : ∀ {ds : List D}, pks ρ rs = some ds → PkL K cl F H xs ds := by
  induction r with
  | nil => intro ds e; cases e; exact .nil
  | @cons x r xs rs h t ih =>
    intro ds e
    unfold pks at e
    cases e1 : pk r ρ with
    | none => rw [e1] at e; cases e
    | some d =>
      cases e2 : pks ρ rs with
      | none => rw [e1, e2] at e; cases e
      | some ds' => rw [e1, e2] at e; cases e; exact .cons (pk_ok S h e1) (ih e2)
theorem ev_B {r : List V → Hp → VK → Prop} {f : List D → Option R} {t : TA} {a : En → Ou (List R)} (hs : RSn K cl r f) (ha : EvK K cl W t a) : EvE K cl W (tCB r t) (xB f a) := by
  intro F σ H ρ Q S q
  refine ha F σ H ρ _ S ?_
  unfold xB at q
  cases e : a ρ with
  | st => rw [e] at q; exact q
  | er y ρ' => rw [e] at q; exact q
  | ok rs ρ1 =>
    rw [e, Ou.bn_ok] at q
    intro xs F1 H1 S1 s1 rel
    cases e1 : pks ρ1 rs with
    | none => rw [e1] at q; exact q.elim
    | some ds =>
      rw [e1] at q
      have q : PstE K cl W Q σ ρ F H (match f ds with
        | some r => .ok r ρ1
        | none => .st) := q
      cases e2 : f ds with
      | none => rw [e2] at q; exact q.elim
      | some out =>
        rw [e2] at q
        exact hs F1 H1 xs ds out S1.sub (pks_ok S1 rel e1) e2 _ fun z F2 H2 g rr => q z F2 H2 (g.sta S1) (s1.trans g.stp) ((rr.rel S1).from s1)
end
section
variable {cl : Str → Option Addr} {X : Cx} {e : Expr} {es : List Expr} {ea : En → Ou R} {er : En → Ou (List R)} {pos p : Pos} {x : Str} {id T : String} {r : List V → Hp → VK → Prop} {f : List D → Option R}
def EK (cl : Str → Option Addr) (X : Cx) (es : List Expr) (ex : En → Ou (List R)) : Prop := ∀ W, Takes X W → ∃ t, PA X es t ∧ EvK X.K cl W t ex
theorem ek_nil : EK cl X [] kNil := fun W tk => ⟨_, pa_nil, ev_kNil⟩
theorem ek_cons (ha : EE cl X e ea) (hr : EK cl X es er) (hs : starEach (e :: es) X.env = (false, eval e X.env) :: starEach es X.env := by rfl) : EK cl X (e :: es) (kCons ea er) := fun W tk =>
  let ⟨_, p, v⟩ := ha W tk; let ⟨_, p1, v1⟩ := hr W tk; ⟨_, pa_cons p p1 hs, ev_kCons v v1⟩
/-- b(e, ..), b a built-in function -/
theorem ee_bf (hc : CallR X (.builtin id) r) (hs : RSn X.K cl r f) (hv : bootBuiltins x = some (.builtin id)) (hm : X.mg x = none) (ha : EK cl X (e :: es) er) (hg : Gl X x := by rfl) (hn : x ≠ "__name__" := by decide) (hdb : (x == ("__debug__" : Str)) = false := by decide)
    (he : starEach (e :: es) X.env = (false, eval e X.env) :: starEach es X.env := by rfl) (hpl : (backTo pos (starEach es X.env)).any (·.1) = false := by rfl) : EE cl X (.Call (.Name x p) (e :: es) [] pos) (xB f er) := fun W tk =>
  let ⟨_, pp, v⟩ := ha W tk; ⟨_, pe_callB hc hg hm hv pp hn hdb he hpl, ev_B hs v⟩
/-- T(e, ..), T a built-in type -/
theorem ee_bt (hc : CallR X (.type T) r) (hs : RSn X.K cl r f) (hv : bootBuiltins x = some (.type T)) (hm : X.mg x = none) (ha : EK cl X (e :: es) er) (hg : Gl X x := by rfl) (hn : x ≠ "__name__" := by decide) (hdb : (x == ("__debug__" : Str)) = false := by decide)
    (he : starEach (e :: es) X.env = (false, eval e X.env) :: starEach es X.env := by rfl) (hpl : (backTo pos (starEach es X.env)).any (·.1) = false := by rfl) : EE cl X (.Call (.Name x p) (e :: es) [] pos) (xB f er) := fun W tk =>
  let ⟨_, pp, v⟩ := ha W tk; ⟨_, pe_callTy hc hg hm hv pp hn hdb he hpl, ev_B hs v⟩
theorem pe_tyName {T : String} (hg : Gl X x) (hm : X.mg x = none) (hv : bootBuiltins x = some (.type T)) (hn : x ≠ "__name__" := by decide) (hdb : (x == ("__debug__" : Str)) = false := by decide) : PE X (.Name x pos) (tC (.ty T)) :=
  ⟨fun pins s σ H Q I h => ld_blt I hg hm hv ⟨.ty T, H, I, (show RelV (.ty T) (.type T) from rfl), h⟩ hn hdb⟩
/-- a built-in type by its name -/
theorem ee_ty {T : String} (hv : bootBuiltins x = some (.type T)) (hm : X.mg x = none) (hg : Gl X x := by rfl) (hn : x ≠ "__name__" := by decide) (hdb : (x == ("__debug__" : Str)) = false := by decide) : EE cl X (.Name x pos) (xC (.ty T)) := fun W tk =>
  ⟨_, pe_tyName hg hm hv hn hdb, ev_c fun _ => .ty T⟩
/-- a class of the text by its name -/
theorem ee_cls {c : Str} {A : Addr} (hm : X.mg x = some (.ref A)) (hc : cl c = some A) (hg : Gl X x := by rfl) (hd : (x == ("__debug__" : Str)) = false := by decide) : EE cl X (.Name x pos) (xC (.cls c)) :=
  ee_glob hm (show RelV (.ref A) (.ref A) from rfl) (fun _ => .cls hc) hg hd
end

theorem PkL.one {K : PySem.W.Frag} {cl : Str → Option Addr} {F H : Hp} {xs : List V} {d : D} (h : PkL K cl F H xs [d]) : ∃ x, xs = [x] ∧ Pk K cl F H x d := by
  cases h with
  | cons h t => cases t; exact ⟨_, rfl, h⟩
theorem PkL.two {K : PySem.W.Frag} {cl : Str → Option Addr} {F H : Hp} {xs : List V} {d d' : D} (h : PkL K cl F H xs [d, d']) : ∃ x y, xs = [x, y] ∧ Pk K cl F H x d ∧ Pk K cl F H y d' := by
  cases h with
  | cons h t => obtain ⟨y, rfl, h2⟩ := t.one; exact ⟨_, _, rfl, h, h2⟩
/-! ### len -/
def lenD : List D → Option R
  | [.lst ds] => some (.v (.int ds.length))
  | [.tup ds] => some (.v (.int ds.length))
  | [.scr ns] => some (.v (.int ns.length))
  | [.str z] => if z.length ≤ sizeLine then some (.v (.int z.length)) else none
  | _ => none
def rLen (K : PySem.W.Frag) : List V → Hp → VK → Prop := fun xs H Q => (∃ p ys, xs = [.ref p] ∧ (SqL K H p ys ∨ SqT K H p ys) ∧ Q (.int ys.length) H) ∨ ∃ z, xs = [.str z] ∧ z.length ≤ sizeLine ∧ Q (.int z.length) H
theorem rs_len {K : PySem.W.Frag} {cl : Str → Option Addr} : RSn K cl (rLen K) lenD := by
  intro F H xs ds out s hp e Q q
  unfold lenD at e
  split at e
  · obtain ⟨x, rfl, a, vs, rfl, ha, r⟩ := hp.one
    cases e
    exact .inl ⟨a, vs, rfl, .inl (.inl (.inl ha)), q _ F H (Grow.refl s) (by rw [r.1]; exact .int _)⟩
  · obtain ⟨x, rfl, _, a, vs, rfl, ha, _, r⟩ := hp.one
    cases e
    exact .inl ⟨a, vs, rfl, .inr ha, q _ F H (Grow.refl s) (by rw [r.1]; exact .int _)⟩
  · obtain ⟨x, rfl, a, rfl, ha⟩ := hp.one
    cases e
    exact .inl ⟨a, _, rfl, .inl ha, q _ F H (Grow.refl s) (by rw [List.length_map]; exact .int _)⟩
  · rename_i z
    obtain ⟨x, rfl, h⟩ := hp.one
    cases h
    split at e
    · rename_i hz
      cases e
      exact .inr ⟨z, rfl, hz, q _ F H (Grow.refl s) (.int _)⟩
    · cases e
  · cases e
theorem call_lenA {X : Cx} : CallR X (.builtin "len") (rLen X.K) := call_len_seq.or call_len_str
/-! ### tuple, list -/
def tupleD : List D → Option R
  | [.lst ds] => some (.v (.tup ds))
  | [.tup ds] => some (.v (.tup ds))
  | [.scr ns] => some (.v (.tup (ns.map .int)))
  | _ => none
theorem rs_tuple {K : PySem.W.Frag} {cl : Str → Option Addr} : RSn K cl (fun xs H Q => ∃ p ys, xs = [.ref p] ∧ ((SqL K H p ys ∧ ∀ l, H l = none → Q (.ref l) (upd H l (.tup ys))) ∨ (SqT K H p ys ∧ Q (.ref p) H))) tupleD := by
  intro F H xs ds out s hp e Q q
  unfold tupleD at e
  split at e
  · obtain ⟨x, rfl, a, vs, rfl, ha, r⟩ := hp.one
    cases e
    exact ⟨a, vs, rfl, .inl ⟨.inl (.inl ha), fun l n => let ⟨g, rr⟩ := resT (cl := cl) s n r; q _ _ _ g rr⟩⟩
  · obtain ⟨x, rfl, rp, a, vs, rfl, ha, _, r⟩ := hp.one
    cases e
    exact ⟨a, vs, rfl, .inr ⟨ha, q _ F H (Grow.refl s) rp⟩⟩
  · obtain ⟨x, rfl, a, rfl, ha⟩ := hp.one
    cases e
    exact ⟨a, _, rfl, .inl ⟨ha, fun l n => let ⟨g, rr⟩ := resT (cl := cl) s n (RepL.of_ints _); q _ _ _ g rr⟩⟩
  · cases e
def listD : List D → Option R
  | [.lst ds] => some (.o (.L ds))
  | [.tup ds] => some (.o (.L ds))
  | [.scr ns] => some (.o (.L (ns.map .int)))
  | _ => none
theorem rs_list {K : PySem.W.Frag} {cl : Str → Option Addr} : RSn K cl (fun xs H Q => ∃ p ys, xs = [.ref p] ∧ (SqL K H p ys ∨ SqT K H p ys) ∧ ∀ l, H l = none → Q (.ref l) (upd H l (.lst ys))) listD := by
  intro F H xs ds out s hp e Q q
  unfold listD at e
  split at e
  · obtain ⟨x, rfl, a, vs, rfl, ha, r⟩ := hp.one
    cases e
    exact ⟨a, vs, rfl, .inl (.inl (.inl ha)), fun l n => let ⟨g, rr⟩ := resL (cl := cl) s n r; q _ _ _ g rr⟩
  · obtain ⟨x, rfl, rp, a, vs, rfl, ha, _, r⟩ := hp.one
    cases e
    exact ⟨a, vs, rfl, .inr ha, fun l n => let ⟨g, rr⟩ := resL (cl := cl) s n r; q _ _ _ g rr⟩
  · obtain ⟨x, rfl, a, rfl, ha⟩ := hp.one
    cases e
    exact ⟨a, _, rfl, .inl ha, fun l n => let ⟨g, rr⟩ := resL (cl := cl) s n (RepL.of_ints _); q _ _ _ g rr⟩
  · cases e
/-! ### all, any, sum of a list -/
def blsD : List D → Option (List Bool)
  | [] => some []
  | .bl b :: ds => (blsD ds).map (b :: ·)
  | _ => none
def intsD : List D → Option (List Int)
  | [] => some []
  | .int b :: ds => (intsD ds).map (b :: ·)
  | _ => none
def strsD : List D → Option (List Str)
  | [] => some []
  | .str b :: ds => (strsD ds).map (b :: ·)
  | _ => none
theorem blsD_eq : ∀ {ds : List D} {bs : List Bool}, blsD ds = some bs → ds = bs.map .bl
  | [], _, e => by cases e; rfl
  | d :: ds, bs, e => by
    cases d with
    | bl b =>
      obtain ⟨bs', e1, rfl⟩ := Option.map_eq_some_iff.mp (show (blsD ds).map (b :: ·) = some bs from e)
      rw [blsD_eq e1]; rfl
    | _ => cases e
theorem intsD_eq : ∀ {ds : List D} {bs : List Int}, intsD ds = some bs → ds = bs.map .int
  | [], _, e => by cases e; rfl
  | d :: ds, bs, e => by
    cases d with
    | int b =>
      obtain ⟨bs', e1, rfl⟩ := Option.map_eq_some_iff.mp (show (intsD ds).map (b :: ·) = some bs from e)
      rw [intsD_eq e1]; rfl
    | _ => cases e
theorem strsD_eq : ∀ {ds : List D} {bs : List Str}, strsD ds = some bs → ds = bs.map .str
  | [], _, e => by cases e; rfl
  | d :: ds, bs, e => by
    cases d with
    | str b =>
      obtain ⟨bs', e1, rfl⟩ := Option.map_eq_some_iff.mp (show (strsD ds).map (b :: ·) = some bs from e)
      rw [strsD_eq e1]; rfl
    | _ => cases e
@[simp] theorem blsD_map (bs : List Bool) : blsD (bs.map .bl) = some bs := by
  induction bs with
  | nil => rfl
  | cons b bs ih => show (blsD (bs.map .bl)).map (b :: ·) = _; rw [ih]; rfl
@[simp] theorem intsD_map (bs : List Int) : intsD (bs.map .int) = some bs := by
  induction bs with
  | nil => rfl
  | cons b bs ih => show (intsD (bs.map .int)).map (b :: ·) = _; rw [ih]; rfl
@[simp] theorem strsD_map (bs : List Str) : strsD (bs.map .str) = some bs := by
  induction bs with
  | nil => rfl
  | cons b bs ih => show (strsD (bs.map .str)).map (b :: ·) = _; rw [ih]; rfl
def allD : List D → Option R
  | [.lst ds] => (blsD ds).map fun bs => .v (.bl (bs.all id))
  | _ => none
def anyD : List D → Option R
  | [.lst ds] => (blsD ds).map fun bs => .v (.bl (bs.any id))
  | _ => none
def sumD : List D → Option R
  | [.lst ds] => (intsD ds).map fun bs => .v (.int bs.sum)
  | [.scr ns] => some (.v (.int ns.sum))
  | _ => none
theorem rs_all {K : PySem.W.Frag} {cl : Str → Option Addr} : RSn K cl (rAll K) allD := by
  intro F H xs ds out s hp e Q q
  unfold allD at e
  split at e
  · obtain ⟨x, rfl, a, vs, rfl, ha, r⟩ := hp.one
    obtain ⟨bs, e1, rfl⟩ := Option.map_eq_some_iff.mp e
    have := blsD_eq e1; subst this
    have := r.bls; subst this
    exact ⟨a, bs, rfl, .inl (.inl ha), q _ F H (Grow.refl s) (.bl _)⟩
  · cases e
theorem rs_any {K : PySem.W.Frag} {cl : Str → Option Addr} : RSn K cl (rAny K) anyD := by
  intro F H xs ds out s hp e Q q
  unfold anyD at e
  split at e
  · obtain ⟨x, rfl, a, vs, rfl, ha, r⟩ := hp.one
    obtain ⟨bs, e1, rfl⟩ := Option.map_eq_some_iff.mp e
    have := blsD_eq e1; subst this
    have := r.bls; subst this
    exact ⟨a, bs, rfl, .inl (.inl ha), q _ F H (Grow.refl s) (.bl _)⟩
  · cases e
theorem rs_sum {K : PySem.W.Frag} {cl : Str → Option Addr} : RSn K cl (rSum K) sumD := by
  intro F H xs ds out s hp e Q q
  unfold sumD at e
  split at e
  · obtain ⟨x, rfl, a, vs, rfl, ha, r⟩ := hp.one
    obtain ⟨bs, e1, rfl⟩ := Option.map_eq_some_iff.mp e
    have := intsD_eq e1; subst this
    have := r.ints; subst this
    exact ⟨a, bs, rfl, .inl (.inl ha), q _ F H (Grow.refl s) (.int _)⟩
  · obtain ⟨x, rfl, a, rfl, ha⟩ := hp.one
    cases e
    exact ⟨a, _, rfl, ha, q _ F H (Grow.refl s) (.int _)⟩
  · cases e
/-! ### numbers -/
def absD : List D → Option R
  | [.int i] => some (.v (.int (if i < 0 then -i else i)))
  | _ => none
def maxD : List D → Option R
  | [.int i, .int j] => some (.v (.int (if j > i then j else i)))
  | _ => none
def minD : List D → Option R
  | [.int i, .int j] => some (.v (.int (if j < i then j else i)))
  | _ => none
def intD : List D → Option R
  | [.int i] => some (.v (.int i))
  | [.bl k] => some (.v (.int (if k then 1 else 0)))
  | _ => none
def boolD : List D → Option R
  | [.int i] => some (.v (.bl (i != 0)))
  | [.bl k] => some (.v (.bl k))
  | _ => none
def strD : List D → Option R
  | [.int i] => if i.natAbs.log2 < 1920 then some (.v (.str (toString i))) else none
  | [.str a] => some (.v (.str a))
  | _ => none
def divmodD : List D → Option R
  | [.int i, .int j] => if okP 1073741823 j = true then some (.v (.tup [.int (i / j), .int (i % j)])) else none
  | _ => none
theorem rs_abs {K : PySem.W.Frag} {cl : Str → Option Addr} : RSn K cl (fun xs H Q => ∃ i, xs = [.int i] ∧ Q (.int (if i < 0 then -i else i)) H) absD := by
  intro F H xs ds out s hp e Q q
  unfold absD at e
  split at e
  · obtain ⟨x, rfl, h⟩ := hp.one
    cases h; cases e
    exact ⟨_, rfl, q _ F H (Grow.refl s) (.int _)⟩
  · cases e
theorem rs_max {K : PySem.W.Frag} {cl : Str → Option Addr} : RSn K cl (fun xs H Q => ∃ i j, xs = [.int i, .int j] ∧ Q (.int (if j > i then j else i)) H) maxD := by
  intro F H xs ds out s hp e Q q
  unfold maxD at e
  split at e
  · obtain ⟨x, y, rfl, h, h'⟩ := hp.two
    cases h; cases h'; cases e
    exact ⟨_, _, rfl, q _ F H (Grow.refl s) (.int _)⟩
  · cases e
theorem rs_min {K : PySem.W.Frag} {cl : Str → Option Addr} : RSn K cl (fun xs H Q => ∃ i j, xs = [.int i, .int j] ∧ Q (.int (if j < i then j else i)) H) minD := by
  intro F H xs ds out s hp e Q q
  unfold minD at e
  split at e
  · obtain ⟨x, y, rfl, h, h'⟩ := hp.two
    cases h; cases h'; cases e
    exact ⟨_, _, rfl, q _ F H (Grow.refl s) (.int _)⟩
  · cases e
theorem rs_int {K : PySem.W.Frag} {cl : Str → Option Addr} : RSn K cl (fun xs H Q => (∃ i, xs = [.int i] ∧ Q (.int i) H) ∨ ∃ k, xs = [.bl k] ∧ Q (.int (if k then 1 else 0)) H) intD := by
  intro F H xs ds out s hp e Q q
  unfold intD at e
  split at e
  · obtain ⟨x, rfl, h⟩ := hp.one
    cases h; cases e
    exact .inl ⟨_, rfl, q _ F H (Grow.refl s) (.int _)⟩
  · obtain ⟨x, rfl, h⟩ := hp.one
    cases h; cases e
    exact .inr ⟨_, rfl, q _ F H (Grow.refl s) (.int _)⟩
  · cases e
theorem rs_bool {K : PySem.W.Frag} {cl : Str → Option Addr} : RSn K cl (fun xs H Q => (∃ i, xs = [.int i] ∧ Q (.bl (i != 0)) H) ∨ ∃ k, xs = [.bl k] ∧ Q (.bl k) H) boolD := by
  intro F H xs ds out s hp e Q q
  unfold boolD at e
  split at e
  · obtain ⟨x, rfl, h⟩ := hp.one
    cases h; cases e
    exact .inl ⟨_, rfl, q _ F H (Grow.refl s) (.bl _)⟩
  · obtain ⟨x, rfl, h⟩ := hp.one
    cases h; cases e
    exact .inr ⟨_, rfl, q _ F H (Grow.refl s) (.bl _)⟩
  · cases e
def rStr : List V → Hp → VK → Prop := fun xs H Q => (∃ i, xs = [.int i] ∧ i.natAbs.log2 < 1920 ∧ Q (.str (toString i)) H) ∨ ∃ a, xs = [.str a] ∧ Q (.str a) H
theorem rs_str {K : PySem.W.Frag} {cl : Str → Option Addr} : RSn K cl rStr strD := by
  intro F H xs ds out s hp e Q q
  unfold strD at e
  split at e
  · obtain ⟨x, rfl, h⟩ := hp.one
    cases h
    split at e
    · rename_i hz
      cases e
      exact .inl ⟨_, rfl, hz, q _ F H (Grow.refl s) (.str _)⟩
    · cases e
  · obtain ⟨x, rfl, h⟩ := hp.one
    cases h; cases e
    exact .inr ⟨_, rfl, q _ F H (Grow.refl s) (.str _)⟩
  · cases e
theorem call_strA {X : Cx} : CallR X (.type "str") rStr := call_str_int.or SkE.call_str_str
theorem rs_divmod {K : PySem.W.Frag} {cl : Str → Option Addr} : RSn K cl (fun xs H Q => ∃ i j, xs = [.int i, .int j] ∧ CDiv i j ∧ ∀ p, H p = none → Q (.ref p) (upd H p (.tup [.int (i / j), .int (i % j)]))) divmodD := by
  intro F H xs ds out s hp e Q q
  unfold divmodD at e
  split at e
  · obtain ⟨x, y, rfl, h, h'⟩ := hp.two
    cases h; cases h'
    split at e
    · rename_i hz
      cases e
      have hz' := okP_iff.mp hz
      exact ⟨_, _, rfl, ⟨by omega, by omega⟩, fun p n => let ⟨g, rr⟩ := resT (cl := cl) s n (RepL.cons (.int _) (RepL.one (.int _))); q _ _ _ g rr⟩
    · cases e
  · cases e
end Dm
end TxtDm12

section TxtDm13
set_option Elab.async false
set_option linter.all false
set_option maxRecDepth 100000
/-! Dm13: isinstance, sorted, text times a number, join; methods of own lists; items stored. -/
namespace Dm
open PySem PySem.Spec PyProof.Rows L2

/-! ### isinstance, built-in classes -/
def tyD : D → Option String
  | .non => some "NoneType"
  | .bl _ => some "bool"
  | .int _ => some "int"
  | .str _ => some "str"
  | .tup _ => some "tuple"
  | .lst _ => some "list"
  | .scr _ => some "list"
  | .dK _ => some "dict"
  | _ => none
def kinds : List String := ["NoneType", "bool", "int", "str", "tuple", "list", "dict"]
def isT (a b : String) : Bool := a == b || (a == "bool" && b == "int")
theorem isT_ok : ∀ a ∈ kinds, ∀ b ∈ kinds.tail, kitB a b = some (isT a b) := by decide +kernel
def isiD : List D → Option R
  | [d, .ty n] => match tyD d with
    | some t => if kinds.tail.contains n then some (.v (.bl (isT t n))) else none
    | none => none
  | _ => none
theorem kitT {K : PySem.W.Frag} {a b : String} (ha : kinds.contains a = true) (hb : kinds.tail.contains b = true) : PySem.W.kitOne K (.type a) (.type b) = some (isT a b) :=
  kit_ty (isT_ok a (by simpa using ha) b (by simpa using hb))
theorem tyD_in {d : D} {t : String} (h : tyD d = some t) : kinds.contains t = true := by
  cases d <;> cases h <;> decide
theorem rd_dK {K : PySem.W.Frag} {H : Hp} {a : Addr} {kvs : List (Key × V)} (h : Rd H a (.dK kvs)) : TyX K H (.ref a) (.type "dict") := by
  rcases h with h | ⟨ob, h⟩
  · exact .base (.dK h)
  · exact .fDict h
theorem tyX_of {K : PySem.W.Frag} {cl : Str → Option Addr} {F H : Hp} {x : V} {d : D} {t : String} (hp : Pk K cl F H x d) (h : tyD d = some t) : TyX K H x (.type t) := by
  cases d with
  | non => cases h; cases hp; exact .base .non
  | bl b => cases h; cases hp; exact .base (.bl b)
  | int b => cases h; cases hp; exact .base (.int b)
  | str b => cases h; cases hp; exact .base (.str b)
  | tup ds =>
    cases h
    obtain ⟨_, a, vs, rfl, ha, _⟩ := hp
    rcases ha with (ha | ⟨o, ha⟩) | ⟨o, xs, n, h1, h2, _⟩
    · exact .base (.tup ha)
    · exact .fTuple ha
    · exact .kTuple h1 (by first | exact h2 | exact h2.1)
  | lst ds =>
    cases h
    obtain ⟨a, vs, rfl, ha, _⟩ := hp
    exact .base (.lst ha)
  | scr ns =>
    cases h
    obtain ⟨a, rfl, ha⟩ := hp
    rcases ha with (ha | ⟨o, ha⟩) | ⟨o, xs, n, h1, h2, _⟩
    · exact .base (.lst ha)
    · exact .base (.frz ha)
    · exact .kList h1 (by first | exact h2 | exact h2.1)
  | dK es =>
    cases h
    obtain ⟨a, kvs, rfl, ha, _⟩ := hp
    exact rd_dK ha
  | _ => cases h
theorem rs_isi {K : PySem.W.Frag} {cl : Str → Option Addr} : RSn K cl (rIsi K) isiD := by
  intro F H xs ds out s hp e Q q
  unfold isiD at e
  split at e
  · rename_i d n
    obtain ⟨x, y, rfl, h, h'⟩ := hp.two
    cases h'
    split at e
    · rename_i t ht
      split at e
      · rename_i hn
        cases e
        exact ⟨x, .ty n, .type t, .type n, isT t n, rfl, .ty n, tyX_of h ht, kitT (tyD_in ht) hn, q _ F H (Grow.refl s) (.bl _)⟩
      · cases e
    · cases e
  · cases e
/-! ### text * number -/
def mulB : D → D → Option R
  | .str x, .int k => if 2 ≤ k ∧ k ≤ 1000 ∧ 1 ≤ x.length ∧ x.length ≤ 1000 then some (.v (.str ⟨(List.replicate k.toNat x.cps).foldl (· ++ ·) #[]⟩)) else none
  | a, b => mulD a b
def rMulS : R2 := fun x y H Q => ∃ (i : Str) (k : Int), x = .str i ∧ y = .int k ∧ 2 ≤ k ∧ k ≤ 1000 ∧ 1 ≤ i.length ∧ i.length ≤ 1000 ∧ Q (.str ⟨(List.replicate k.toNat i.cps).foldl (· ++ ·) #[]⟩) H
theorem fold_len (x : Array Nat) : ∀ (n : Nat) (a : Array Nat), ((List.replicate n x).foldl (· ++ ·) a).size = a.size + n * x.size
  | 0, a => by simp
  | n + 1, a => by
    rw [List.replicate_succ, List.foldl_cons, fold_len x n, Array.size_append, Nat.succ_mul]
    omega
theorem op_mulS {X : Cx} : OpR X (binaryOp .Mult) rMulS := by
  intro pins s σ H x y v u Q I rx ry h
  obtain ⟨i, k, rfl, rfl, h1, h2, h3, h4, q⟩ := h
  obtain ⟨t, rfl⟩ := rx
  obtain ⟨t', rfl⟩ := ry
  have hmul : i.length * k.toNat ≤ 1000 * 1000 := Nat.mul_le_mul h4 (by omega)
  have hd : (k == 1 || i.length == 0) = false := by
    rw [Bool.or_eq_false_iff]
    exact ⟨beq_eq_false_iff_ne.mpr (by omega), beq_eq_false_iff_ne.mpr (by omega)⟩
  refine PySem.P.mul_str ?_ (fun _ _ => ?_) (fun _ _ => ?_) ?_
  · rw [Bool.or_eq_false_iff]
    exact ⟨decide_eq_false (by omega), decide_eq_false (by omega)⟩
  · have : (1000 : Int) ≤ (2 ^ 63 - 1) / k := by
      rw [Int.le_ediv_iff_mul_le (by omega)]
      omega
    have h4' : (i.length : Int) ≤ 1000 := by omega
    omega
  · first
      | exact decide_eq_false (by rw [sizeLine_eq]; omega)
      | (simp only [tooLong]; exact decide_eq_false (by rw [sizeLine_eq]; omega))
      | (unfold tooLong; simp; rw [sizeLine_eq]; omega)
  · rw [if_neg (by omega), if_neg (by rw [hd]; exact Bool.false_ne_true)]
    refine ⟨?_, .str _, H, I.tok _, ⟨_, rfl⟩, q⟩
    show ((List.replicate k.toNat i.cps).foldl (· ++ ·) #[]).size ≤ sizeLine
    rw [fold_len, sizeLine_eq, Array.size_empty, Nat.mul_comm]
    have : i.cps.size * k.toNat ≤ 1000 * 1000 := hmul
    omega
theorem rs_mulB {K : PySem.W.Frag} {cl : Str → Option Addr} : RS2 K cl (fun x y H Q => rMulA K x y H Q ∨ rMulS x y H Q) mulB := by
  refine RS2.or fun F H x y a b out s ha hb e => ?_
  unfold mulB at e
  split at e
  · rename_i z k
    cases ha; cases hb
    split at e
    · rename_i h
      cases e
      exact .inr fun Q q => ⟨z, k, rfl, rfl, h.1, h.2.1, h.2.2.1, h.2.2.2, q _ F H (Grow.refl s) (.str _)⟩
    · cases e
  · exact .inl fun Q q => rs_mulA F H x y _ _ out s ha hb e Q q
theorem ee_mulB {cl : Str → Option Addr} {X : Cx} {a b : Expr} {ea eb : En → Ou R} {pos : Pos} (ha : EE cl X a ea) (hb : EE cl X b eb) : EE cl X (.BinOp a .Mult b pos) (xBin mulB ea eb) := ee_binop (op_mulA.or op_mulS) rs_mulB ha hb

/-! ### sorted -/
def insS {α : Type} (le : α → α → Bool) (a : α) : List α → List α
  | [] => [a]
  | b :: bs => if le a b then a :: b :: bs else b :: insS le a bs
def isort {α : Type} (le : α → α → Bool) : List α → List α
  | [] => []
  | a :: as => insS le a (isort le as)
theorem insS_mid {α : Type} {le : α → α → Bool} {a : α} : ∀ {l₁ l₂ : List α}, (∀ b ∈ l₁, (!le a b) = true) → (∀ b ∈ l₂, le a b = true) → insS le a (l₁ ++ l₂) = l₁ ++ a :: l₂
  | [], [], _, _ => rfl
  | [], b :: l₂, _, h => by
    show (if le a b then a :: b :: l₂ else b :: insS le a l₂) = _
    rw [if_pos (h b List.mem_cons_self)]; rfl
  | b :: l₁, l₂, h1, h2 => by
    show (if le a b then a :: b :: (l₁ ++ l₂) else b :: insS le a (l₁ ++ l₂)) = _
    have := h1 b List.mem_cons_self
    rw [if_neg (by simpa using this), insS_mid (fun c hc => h1 c (List.mem_cons_of_mem _ hc)) h2]; rfl
theorem isort_eq {α : Type} {le : α → α → Bool} (tr : ∀ a b c, le a b = true → le b c = true → le a c = true) (tot : ∀ a b, (le a b || le b a) = true) : ∀ l : List α, isort le l = l.mergeSort le
  | [] => by simp [isort]
  | a :: l => by
    obtain ⟨l₁, l₂, e1, e2, h⟩ := List.mergeSort_cons tr tot a l
    have hp := List.pairwise_mergeSort tr tot (a :: l)
    rw [e1] at hp ⊢
    show insS le a (isort le l) = _
    rw [isort_eq tr tot l, e2]
    refine insS_mid h fun b hb => ?_
    have := (List.pairwise_append.mp hp).2.1
    exact (List.pairwise_cons.mp this).1 b hb
end Dm
end TxtDm13

section TxtDm14
set_option Elab.async false
set_option linter.all false
set_option maxRecDepth 100000
/-! Dm14: sorted; join; methods of own lists; items stored. -/
namespace Dm
open PySem PySem.Spec PySem.Calls PySem.W PyProof.Rows

section
variable {M : Model} {prog : Program} {w : World} {A : Around} {E : Value → Shared → Prop} {s : Shared} {κ : PyProof.Rows.KeyKind}
theorem collect_tup {l : Addr} {vs : List Value} {Q : List Value → Shared → Prop} (hl : s.heap.IsTuple l vs.toArray)
    (h : Q vs { s with heap := (s.heap.push (seqObj "list" #[] 0)).update s.heap.objs.size (Obj.mapSeq (· ++ vs.toArray)) }) (hsz : vs.length ≤ sizeLine) :
    wpAny (model prog w) A (collect (.ref l)) Q E s := by
  obtain ⟨o, ho, hc, n, hd⟩ := id hl
  unfold collect
  refine wpAny_bind (wpAny_runValue (codeAny_builtin entry_proto_collect' ?_))
  show wpAny _ _ (do again (.builtin "list.__iadd__" ⟨[← newList [], .ref l], []⟩)) _ _ s
  refine wpAny_bind (wpAny_newList (wpAny_pure ⟨Code.quiet_builtin _ (by decide +kernel), codeAny_builtin entry_list_iadd' ?_⟩))
  show wpAny _ _ (Builtin.List.listExtendWith (.ref s.heap.objs.size) (.ref l) (.ref s.heap.objs.size)) _ _ { s with heap := s.heap.push (seqObj "list" #[] 0) }
  unfold Builtin.List.listExtendWith
  have ho' : (s.heap.push (seqObj "list" #[] 0)).get? l = some o := Heap.get?_push_of_some _ ho
  refine wpAny_bind (wpAny_typeOf (T := "tuple") ⟨o, ho', hc⟩ ?_)
  have ht : (Value.type "tuple" == Value.type "tuple") = true := by rfl
  rw [if_pos (by rw [ht]; simp)]
  refine wpAny_bind (listItems_at ho' hd ?_)
  refine wpAny_bind (listItems_at (xs := #[]) (n := 0) (Heap.get?_push_size _ rfl) rfl ?_)
  rw [if_neg (by simp)]
  refine wpAny_bind (listUpdate_at (xs := #[]) (n := 0) (Heap.get?_push_size _ rfl) rfl ?_ (Nat.zero_le _) (by show (#[] ++ vs.toArray).size ≤ sizeLine + 1; simp only [Array.size_append, List.size_toArray, List.length_nil]; omega))
  refine wpAny_pure ?_
  show wpAny (model prog w) A (do
      let o ← load s.heap.objs.size
      match o.data with
      | .seq xs _ => pure xs.toList
      | _ => unsupported "internal:collect") Q E { s with heap := (s.heap.push (seqObj "list" #[] 0)).update s.heap.objs.size (Obj.mapSeq (· ++ vs.toArray)) }
  refine wpAny_bind (wpAny_load (get?_update_seq (Heap.get?_push_size _ rfl) _) ?_)
  show wpAny _ _ (pure ((#[] : Array Value) ++ vs.toArray).toList) Q E _
  rw [show ((#[] : Array Value) ++ vs.toArray).toList = vs by simp]
  exact wpAny_pure h
theorem sortedT_vals {l : Addr} {vs : List Value} {Q : Value → Shared → Prop} (hl : s.heap.IsTuple l vs.toArray) (S : SortsAt prog w A.in1.in1 { s with heap := sortingHeap (copyHeap s.heap vs) (s.heap.objs.size + 1) vs } κ vs) (hL : vs.length ≤ sizeLine)
    (h : Q (.ref (s.heap.objs.size + 1)) { s with heap := sortedAll s.heap vs (sortVals κ false vs vs).toArray }) : wpAny (model prog w) A (call (.builtin "sorted") [.ref l]) Q E s := by
  refine call_function_entry_kw kind_sorted plain_sorted entry_sorted (args_sorted1 _) ?_
  unfold Builtin.«sorted»
  refine wpAny_bind (m := checkCount "sorted" 1 1 _) (wpAny_pure ?_)
  refine wpAny_bind (collect_tup hl ?_ hL)
  refine wpAny_bind (wpAny_newList ?_ hL)
  have hsz : ((s.heap.push (seqObj "list" #[] 0)).update s.heap.objs.size (Obj.mapSeq (· ++ vs.toArray))).objs.size = s.heap.objs.size + 1 := by
    rw [Heap.size_update, size_push']
  show wpAny _ _ _ _ _ { s with heap := copyHeap s.heap vs }
  rw [hsz]
  refine wpAny_bind (wpAny_holding (wpAny_call_entry_kw slot_list_sort ⟨_, copyHeap_at s.heap vs, rfl⟩ entry_list_sort ?body (args_list_sort _)))
  case body =>
    show wpAny (model prog w) A.in1.in1 (Builtin.«list.sort» ⟨[.ref (s.heap.objs.size + 1)], []⟩) _ _ _
    refine wpAny_mono (list_sort_vals (s := { s with heap := copyHeap s.heap vs }) (P := fun f s' => f = .done (.ret .none) ∧ Q (.ref (s.heap.objs.size + 1)) s') (copyHeap_at s.heap vs) S hL ⟨rfl, h⟩) (fun f s' hf => ?_) fun _ _ e => e
    obtain ⟨rfl, hq⟩ := hf
    exact ⟨_, rfl, wpAny_pure ⟨_, rfl, hq⟩⟩
theorem sortedT_data {β : Type} {vs : List Value} {bs : List β} {enc : β → PyData} {R : Value → β → Prop} {l : Addr} {Q : Value → Shared → Prop} (hl : s.heap.IsTuple l vs.toArray) (e : EachIs R vs bs) (er : EachIs (fun v b => ∃ as, Reads s.heap v (enc b) as) vs bs) (hal : AllAlike (bs.map enc)) (hk : Sortable (bs.map enc)) (hL : bs.length ≤ sizeLine)
    (hu : ∀ b, b ∈ bs → A.units + 2 + (enc b).depth < cLine) (h : ∀ out, out.length = bs.length → EachIs R out (bs.mergeSort (dataLe false enc)) → Q (.ref (s.heap.objs.size + 1)) { s with heap := sortedAll s.heap vs (List.toArray out) }) :
    wpAny (model prog w) A (call (.builtin "sorted") [.ref l]) Q E s := by
  have er' : EachIs (fun v b => ∃ as, Reads (sortingHeap (copyHeap s.heap vs) (s.heap.objs.size + 1) vs) v (enc b) as) vs bs := er.mono fun _ _ ⟨as, r⟩ => ⟨as, PyProof.Rows.Reads.keeps (fun _ _ => sorting_copy_old) r⟩
  exact sortedT_vals hl (SortsAt.data (s := { s with heap := sortingHeap (copyHeap s.heap vs) (s.heap.objs.size + 1) vs }) (each_map (R := fun v d => ∃ as, Reads (sortingHeap (copyHeap s.heap vs) (s.heap.objs.size + 1) vs) v d as) enc er') hal hk (bound_map hu)) (by rw [e.length]; exact hL)
    (h _ (by rw [sortVals_length false rfl]; exact e.length) (sortVals_data false e er' hal))
end
end Dm

namespace Dm
open PySem PySem.Spec PyProof.Rows L2
def encD (d : D) : PyData := d.py.getD .none
def leD' : D → D → Bool := PySem.W.dataLe false encD
def sortD (ds : List D) : List D := isort leD' ds
def tup1 : PyData → Bool
  | .tuple (_ :: _) => true
  | _ => false
def noTup : PyData → Bool
  | .tuple _ => false
  | .none => false
  | _ => true
def sortOk (ds : List D) : Bool := match D.pys ds with
  | some ps => ps.all (fun p => ps.all (PySem.W.alike p)) && (ps.all tup1 || ps.all noTup) && ps.all (fun p => decide (p.depth ≤ 100)) && decide (ds.length ≤ sizeLine)
  | none => false
theorem sortD_eq (ds : List D) : sortD ds = ds.mergeSort (PySem.W.dataLe false encD) := by
  have T := PySem.W.sortLe_total (PyProof.Rows.listOrd PyProof.Rows.itemOrd) false fun b => PySem.W.keyToks (encD b)
  exact isort_eq T.trans (fun a b => Bool.or_eq_true_iff.mpr (T.total a b)) ds
theorem pys_map : ∀ {ds : List D} {ps : List PyData}, D.pys ds = some ps → ds.map encD = ps ∧ ∀ d ∈ ds, d.py = some (encD d)
  | [], _, e => by cases e; exact ⟨rfl, fun d h => by cases h⟩
  | d :: ds, ps, e => by
    unfold D.pys at e
    cases e1 : d.py with
    | none => rw [e1] at e; cases e
    | some p =>
      cases e2 : D.pys ds with
      | none => rw [e1, e2] at e; cases e
      | some qs =>
        rw [e1, e2] at e; cases e
        obtain ⟨h1, h2⟩ := pys_map e2
        have he : encD d = p := by unfold encD; rw [e1]; rfl
        refine ⟨by rw [List.map_cons, h1, he], fun d' hd => ?_⟩
        rcases List.mem_cons.mp hd with rfl | hd
        · rw [e1, he]
        · exact h2 d' hd
structure SortIs (ds : List D) : Prop where
  py : ∀ d ∈ ds, d.py = some (encD d)
  al : PySem.W.AllAlike (ds.map encD)
  so : PySem.W.Sortable (ds.map encD)
  dp : ∀ d ∈ ds, (encD d).depth ≤ 100
  ln : ds.length ≤ sizeLine
theorem sortOk_is {ds : List D} (h : sortOk ds = true) : SortIs ds := by
  unfold sortOk at h
  cases e : D.pys ds with
  | none => rw [e] at h; cases h
  | some ps =>
    rw [e] at h
    simp only [Bool.and_eq_true] at h
    obtain ⟨⟨⟨h1, h2⟩, h3⟩, h4⟩ := h
    obtain ⟨m, p⟩ := pys_map e
    refine ⟨p, ?_, ?_, fun d hd => ?_, of_decide_eq_true h4⟩
    · rw [m]
      intro d hd d' hd'
      rw [List.all_eq_true] at h1
      exact List.all_eq_true.mp (h1 d hd) d' hd'
    · rw [m]
      rcases Bool.or_eq_true_iff.mp h2 with h2 | h2
      · refine .inl fun d hd => ?_
        have := List.all_eq_true.mp h2 d hd
        cases d with
        | tuple xs =>
          cases xs with
          | nil => cases this
          | cons x r => exact ⟨x, r, rfl⟩
        | _ => cases this
      · refine .inr fun d hd => ?_
        have := List.all_eq_true.mp h2 d hd
        cases d with
        | tuple xs => cases this
        | none => cases this
        | _ => refine And.intro (fun z => ?_) (fun xs z => ?_) <;> cases z
    · have hm : encD d ∈ ps := m ▸ List.mem_map_of_mem hd
      exact of_decide_eq_true (List.all_eq_true.mp h3 _ hm)
section
variable {K : PySem.W.Frag} {cl : Str → Option Addr} {F F' H H' : Hp}
theorem each_of {P : Value → D → Prop} {vs : List V} {ds : List D} (r : RepL K cl F vs ds) : ∀ {its : List Value}, Vals vs its → (∀ x v d, d ∈ ds → RelV x v → Rep K cl F x d → P v d) → PySem.W.EachIs P its ds := by
  refine r.ind (P := fun vs ds => ∀ {its : List Value}, Vals vs its → (∀ x v d, d ∈ ds → RelV x v → Rep K cl F x d → P v d) → PySem.W.EachIs P its ds) (fun rv h => ?_) fun v d vs ds hr _ ih its rv h => ?_
  · cases rv; exact .nil
  · cases rv with
    | cons r1 r2 => exact .cons (h v _ d List.mem_cons_self r1 hr) (ih r2 fun x v d hd => h x v d (List.mem_cons_of_mem _ hd))
theorem each_back : ∀ {out : List Value} {ds : List D}, PySem.W.EachIs (fun v d => ∃ x, RelV x v ∧ Rep K cl F x d) out ds → ∃ vs, Vals vs out ∧ RepL K cl F vs ds
  | _, _, .nil => ⟨[], .nil, RepL.nil⟩
  | _, _, .cons ⟨x, h1, h2⟩ t => let ⟨vs, a, b⟩ := each_back t; ⟨x :: vs, .cons h1 a, RepL.cons h2 b⟩
def rSortD (K : PySem.W.Frag) (cl : Str → Option Addr) : List V → Hp → VK → Prop := fun xs H Q => ∃ F a vs ds, Sub F H ∧ xs = [.ref a] ∧ (SqL K H a vs ∨ SqT K H a vs) ∧ RepL K cl F vs ds ∧ sortOk ds = true ∧
  ∀ vs' p, RepL K cl F vs' (sortD ds) → H p = none → Q (.ref p) (upd H p (.lst vs'))
theorem cr_sortD {X : Cx} {k : Nat} (hr : Room k X.A) : CallR X (.builtin "sorted") (rSortD X.K cl) := by
  intro pins s σ H xs us Q I r h
  obtain ⟨F, a, vs, ds, sub, rfl, hq, rl, ok, q⟩ := h
  obtain ⟨u, rfl, rx⟩ := vals1 r
  cases rx
  have S := sortOk_is ok
  have hu : ∀ d, d ∈ ds → X.A.units + 2 + (encD d).depth < cLine := fun d hd => by have := S.dp d hd; have := hr.un; omega
  have main : ∀ its : List Value, Vals vs its → vs.length ≤ sizeLine → PySem.W.EachIs (fun v d => ∃ x, RelV x v ∧ Rep X.K cl F x d) its ds ∧ PySem.W.EachIs (fun v b => ∃ as, Reads s.heap v (encD b) as) its ds ∧
      ∀ out : List Value, out.length = ds.length → PySem.W.EachIs (fun v d => ∃ x, RelV x v ∧ Rep X.K cl F x d) out (ds.mergeSort (PySem.W.dataLe false encD)) → EP X pins σ Q (.ref (s.heap.objs.size + 1)) { s with heap := sortedAll s.heap its (List.toArray out) } := fun its rv hz => by
    refine ⟨each_of rl rv fun x v d _ h1 h2 => ⟨x, h1, h2⟩, each_of rl rv fun x v d hd h1 h2 => Dp.reads I _ _ _ (h2.dp sub (S.py d hd)) h1, fun out hl he => ?_⟩
    obtain ⟨vs', v1, v2⟩ := each_back he
    obtain ⟨ep, he'⟩ := PyProof.Rows.sortedAll_at s.heap its out.toArray
    have hlen : vs'.length ≤ sizeLine := by rw [v1.length, hl]; exact S.ln
    exact ⟨.ref _, upd H (s.heap.objs.size + 1) (.lst vs'), I.laid (t' := s.toks) (fun _ _ => PyProof.Rows.sortedAll_old) (Nat.le_succ _) ⟨hlen, out, ep, v1, by simpa using he'⟩, rfl, q vs' _ (by rw [sortD_eq]; exact v2) (I.hok.fresh (Nat.le_succ _))⟩
  rcases hq with hq | hq
  · obtain ⟨its, rv, hl, hz⟩ := I.list hq
    obtain ⟨m1, m2, m3⟩ := main its rv hz
    exact PySem.W.sorted_data hl.isList m1 m2 S.al S.so S.ln hu m3
  · obtain ⟨its, rv, hl, hz⟩ := I.tuple hq
    obtain ⟨m1, m2, m3⟩ := main its rv hz
    exact sortedT_data hl m1 m2 S.al S.so S.ln hu m3
def sortedD : List D → Option R
  | [.lst ds] => if sortOk ds then some (.o (.L (sortD ds))) else none
  | [.tup ds] => if sortOk ds then some (.o (.L (sortD ds))) else none
  | [.scr ns] => if sortOk (ns.map .int) then some (.o (.L (sortD (ns.map .int)))) else none
  | _ => none
theorem rs_sorted : RSn K cl (rSortD K cl) sortedD := by
  intro F H xs ds out s hp e Q q
  unfold sortedD at e
  split at e
  · obtain ⟨x, rfl, a, vs, rfl, ha, r⟩ := hp.one
    split at e
    · rename_i h
      cases e
      exact ⟨F, a, vs, _, s, rfl, .inl (.inl (.inl ha)), r, h, fun vs' p r' n => let ⟨g, rr⟩ := resL (cl := cl) s n r'; q _ _ _ g rr⟩
    · cases e
  · obtain ⟨x, rfl, _, a, vs, rfl, ha, _, r⟩ := hp.one
    split at e
    · rename_i h
      cases e
      exact ⟨F, a, vs, _, s, rfl, .inr ha, r, h, fun vs' p r' n => let ⟨g, rr⟩ := resL (cl := cl) s n r'; q _ _ _ g rr⟩
    · cases e
  · obtain ⟨x, rfl, a, rfl, ha⟩ := hp.one
    split at e
    · rename_i h
      cases e
      exact ⟨F, a, _, _, s, rfl, .inl ha, RepL.of_ints _, h, fun vs' p r' n => let ⟨g, rr⟩ := resL (cl := cl) s n r'; q _ _ _ g rr⟩
    · cases e
  · cases e
end
end Dm
end TxtDm14

section TxtDm15
set_option Elab.async false
set_option linter.all false
set_option maxRecDepth 100000
/-! Dm15: methods of texts; methods of own lists and dicts; items stored; new dicts; op=. -/
namespace Dm
open PySem PySem.Spec PyProof.Rows L2

/-! ### methods of texts -/
def xSM (f : Str → List D → Option R) (eo : En → Ou R) (ea : En → Ou (List R)) : En → Ou R := fun ρ => (eo ρ).bn fun ro ρ1 => match pk ro ρ1 with
  | some (.str z) => (ea ρ1).bn fun rs ρ2 => (match pks ρ2 rs with
    | some ds => (match f z ds with
      | some r => .ok r ρ2
      | none => .st)
    | none => .st)
  | _ => .st
def RSs (K : PySem.W.Frag) (cl : Str → Option Addr) (r : V → List V → Hp → VK → Prop) (f : Str → List D → Option R) : Prop := ∀ F H z xs ds out, Sub F H → PkL K cl F H xs ds → f z ds = some out →
  ∀ Q : VK, (∀ z F' H', Grow F H F' H' → ResR K cl F H F' H' z out → Q z H') → r (.str z) xs H Q
section
variable {K : PySem.W.Frag} {cl : Str → Option Addr} {F F' F1 F2 H H' H1 H2 H0 F0 : Hp} {σ σ1 σ2 σ0 : L2.St} {ρ ρ0 ρ1 ρ2 ρb : En} {pn : Nat → Bool} {v x : V} {d : D} {W : WX}
theorem ev_sm {r : V → List V → Hp → VK → Prop} {f : Str → List D → Option R} {to : TE} {t : TA} {eo : En → Ou R} {ea : En → Ou (List R)} (hs : RSs K cl r f) (ho : EvE K cl W to eo) (ha : EvK K cl W t ea) : EvE K cl W (tBM K "str" r to t) (xSM f eo ea) := by
  intro F σ H ρ Q S q
  refine ho.then (P := PstE K cl W Q σ ρ F H) S q (fun z => z) (fun _ _ z => z) fun ro ρ1 q x F1 H1 S1 s1 rel => ?_
  cases e : pk ro ρ1 with
  | none => rw [e] at q; exact q.elim
  | some d =>
    rw [e] at q
    cases d with
    | str z =>
      have hx : x = .str z := pk_ok S1 rel e
      subst hx
      refine ⟨rfl, ha F1 σ H1 ρ1 _ S1 ?_⟩
      cases e2 : ea ρ1 with
      | st => simp only [e2, Ou.bn_st] at q; exact q
      | er y ρ' => simp only [e2, Ou.bn_er] at q; exact fun c d F' H' S' s' er => q c d F' H' S' (s1.trans s') er
      | ok rs ρ2 =>
        simp only [e2, Ou.bn_ok] at q
        intro xs F2 H2 S2 s2 rr
        cases e3 : pks ρ2 rs with
        | none => rw [e3] at q; exact q.elim
        | some ds =>
          rw [e3] at q
          have q : PstE K cl W Q σ ρ F H (match f z ds with
            | some r => .ok r ρ2
            | none => .st) := q
          cases e4 : f z ds with
          | none => rw [e4] at q; exact q.elim
          | some out =>
            rw [e4] at q
            exact hs F2 H2 z xs ds out S2.sub (pks_ok S2 rr e3) e4 _ fun y F3 H3 g r3 => q y F3 H3 (g.sta S2) ((s1.trans s2).trans g.stp) ((r3.rel S2).from (s1.trans s2))
    | _ => exact q.elim
end
section
variable {cl : Str → Option Addr} {X : Cx} {o e : Expr} {es : List Expr} {eo ea : En → Ou R} {er : En → Ou (List R)} {apos cpos : Pos} {name : Str} {id : String} {r : V → List V → Hp → VK → Prop} {f : Str → List D → Option R}
theorem ee_sm (slot : Slot "str" name id) (hty : typeOf (.builtin id) = pure (.type "method_descriptor")) (hm : MtR X id r) (hs : RSs X.K cl r f) (ho : EE cl X o eo) (ha : EK cl X (e :: es) er)
    (hbase : attributeBase o name X.env (eval o X.env) = eval o X.env := by rfl)
    (hfew : ((backTo cpos (starEach (e :: es) X.env)).all (fun x => !x.1) && (backToKw cpos (keywordEach [] X.env)).all (fun x => x.1.isSome)
      && decide ((e :: es).length + ([] : List Keyword).length + (if ([] : List Keyword).isEmpty then 0 else 1) < 30)) = true := by rfl)
    (hline : (apos.endLine == cpos.line) = true := by rfl) (hss : starEach (e :: es) X.env = (false, eval e X.env) :: starEach es X.env := by rfl) (hplain : (backTo cpos (starEach es X.env)).any (·.1) = false := by rfl) :
    EE cl X (.Call (.Attribute o name apos) (e :: es) [] cpos) (xSM f eo er) := fun W tk =>
  let ⟨_, p, v⟩ := ho W tk; let ⟨_, p1, v1⟩ := ha W tk; ⟨_, pe_bm PySem.F.plainAttrs_str slot hty hm p p1 hbase hfew hline hss hplain, ev_sm hs v v1⟩
end
def joinD (a : Str) : List D → Option R
  | [.lst ds] => (strsD ds).bind fun ys => if (ys.map (·.length)).sum + ys.length * a.length ≤ 16777216 then some (.v (.str (Txt.join a ys))) else none
  | [.tup ds] => (strsD ds).bind fun ys => if (ys.map (·.length)).sum + ys.length * a.length ≤ 16777216 then some (.v (.str (Txt.join a ys))) else none
  | _ => none
theorem rs_join {K : PySem.W.Frag} {cl : Str → Option Addr} : RSs K cl (fun x xs H Q => ∃ a p, ∃ ys : List Str, x = .str a ∧ xs = [.ref p] ∧ (SqL K H p (ys.map V.str) ∨ SqT K H p (ys.map V.str)) ∧
    (ys.map (·.length)).sum + ys.length * a.length ≤ 16777216 ∧ Q (.str (Txt.join a ys)) H) joinD := by
  intro F H z xs ds out s hp e Q q
  unfold joinD at e
  split at e
  · obtain ⟨x, rfl, a, vs, rfl, ha, r⟩ := hp.one
    obtain ⟨ys, e1, e2⟩ := Option.bind_eq_some_iff.mp e
    have := strsD_eq e1; subst this
    have := r.strs; subst this
    split at e2
    · rename_i hz
      cases e2
      exact ⟨z, a, ys, rfl, rfl, .inl (.inl (.inl ha)), hz, q _ F H (Grow.refl s) (.str _)⟩
    · cases e2
  · obtain ⟨x, rfl, _, a, vs, rfl, ha, _, r⟩ := hp.one
    obtain ⟨ys, e1, e2⟩ := Option.bind_eq_some_iff.mp e
    have := strsD_eq e1; subst this
    have := r.strs; subst this
    split at e2
    · rename_i hz
      cases e2
      exact ⟨z, a, ys, rfl, rfl, .inr ha, hz, q _ F H (Grow.refl s) (.str _)⟩
    · cases e2
  · cases e

/-! ### what a slot owns, changed -/
section
variable {K : PySem.W.Frag} {cl : Str → Option Addr} {F F' F1 F2 H H' H1 H2 H0 F0 : Hp} {σ σ1 σ2 σ0 : L2.St} {ρ ρ0 ρ1 ρ2 ρb : En} {pn : Nat → Bool} {v x : V} {d : D} {W : WX}
theorem write_ok {i : Nat} {p : Addr} {c c' : C} {o' : HO} (S : Sta K cl F σ H ρ) (hi : ρ[i]? = some (some c)) (hc : c.own = true) (hp : σ[i]? = some (some (.ref p))) (hc' : c'.own = true) (ha : OwnAt K cl F o' c') :
    Sta K cl F σ (upd H p o') (ρ.set i (some c')) ∧ Stp pn σ ρ F H σ (ρ.set i (some c')) F (upd H p o') := by
  have hl : i < ρ.length := (List.getElem?_eq_some_iff.mp hi).1
  obtain ⟨p0, o, e1, e2, e3, e4⟩ := S.own i c hi hc
  rw [hp] at e1; cases e1
  have low : ∀ q, OwnS σ (ρ.set i (some c')) q → OwnS σ ρ q := fun q ⟨j, cj, h1, h2, h3⟩ => by
    rcases get_set_some h1 with ⟨e, z⟩ | ⟨ne, z⟩
    · subst e; exact ⟨i, c, hi, hc, h3⟩
    · exact ⟨j, cj, z, h2, h3⟩
  refine ⟨⟨fun a u e => ?_, by rw [List.length_set]; exact S.len, fun j d h => ?_, fun j cj h hcj => ?_, fun j k cj ck q h1 h2 h3 h4 h5 h6 => ?_⟩, ⟨fun _ _ h => h, fun q u h n => ?_, fun _ _ _ _ h => .inl h, fun q h => .inl (low q h), fun _ _ => rfl, fun q u h => ?_, rfl⟩⟩
  · have na : a ≠ p := fun z => by rw [z, e2] at e; cases e
    rw [upd_ne na]
    exact S.sub a u e
  · rcases get_set_some h with ⟨e, z⟩ | ⟨ne, z⟩
    · cases z; cases hc'
    · exact S.val j d z
  · rcases get_set_some h with ⟨e, z⟩ | ⟨ne, z⟩
    · subst e; cases z
      exact ⟨p, o', hp, e2, upd_same, ha⟩
    · obtain ⟨q, u, f1, f2, f3, f4⟩ := S.own j cj z hcj
      have nq : q ≠ p := fun y => ne (S.sep i j c cj p hi z hc hcj hp (by rw [← y]; exact f1))
      exact ⟨q, u, f1, f2, by rw [upd_ne nq]; exact f3, f4⟩
  · have get : ∀ {j : Nat} {cj : C}, (ρ.set i (some c'))[j]? = some (some cj) → cj.own = true → ∃ c0, ρ[j]? = some (some c0) ∧ c0.own = true := fun {j cj} h hcj => by
      rcases get_set_some h with ⟨e, z⟩ | ⟨ne, z⟩
      · subst e; exact ⟨c, hi, hc⟩
      · exact ⟨cj, z, hcj⟩
    obtain ⟨a, a1, a2⟩ := get h1 h3
    obtain ⟨b, b1, b2⟩ := get h2 h4
    exact S.sep j k a b q a1 b1 a2 b2 h5 h6
  · have nq : q ≠ p := fun z => n ⟨i, c, hi, hc, by rw [z]; exact hp⟩
    rw [upd_ne nq]; exact h
  · by_cases e : q = p
    · subst e; exact ⟨o', upd_same⟩
    · exact ⟨u, by rw [upd_ne e]; exact h⟩
end
def tyC : C → String
  | .L _ => "list"
  | .dK _ => "dict"
  | .dT _ => "dict"
  | _ => ""
/-- slot i's thing: a method that changes it, its arguments as values -/
def xMut (T : String) (f : C → List D → Option (D × C)) (i : Nat) (a : En → Ou (List D)) : En → Ou R := fun ρ => match ρ[i]? with
  | some (some c) => if c.own && tyC c == T then (a ρ).bn fun ds ρ1 => (match ρ1[i]? with
    | some (some c1) => if c1.own then (match f c1 ds with
      | some (d, c') => if c'.own then .ok (.v d) (ρ1.set i (some c')) else .st
      | none => .st) else .st
    | _ => .st) else .st
  | _ => .st
def RSm (K : PySem.W.Frag) (cl : Str → Option Addr) (r : V → List V → Hp → VK → Prop) (f : C → List D → Option (D × C)) : Prop := ∀ F H p o c xs ds d c', Sub F H → F p = none → H p = some o → OwnAt K cl F o c → RepL K cl F xs ds → f c ds = some (d, c') →
  ∀ Q : VK, (∀ z o', Rep K cl F z d → OwnAt K cl F o' c' → Q z (upd H p o')) → r (.ref p) xs H Q
section
variable {K : PySem.W.Frag} {cl : Str → Option Addr} {F F' F1 F2 H H' H1 H2 H0 F0 : Hp} {σ σ1 σ2 σ0 : L2.St} {ρ ρ0 ρ1 ρ2 ρb : En} {pn : Nat → Bool} {v x : V} {d : D} {W : WX}
theorem tyV_own {c : C} {p : Addr} {o : HO} (hc : c.own = true) (h : H p = some o) (ha : OwnAt K cl F o c) (nO : ∀ k fs, c ≠ .O k fs) : tyV K (tyC c) (.ref p) H := by
  cases c with
  | v d => cases hc
  | L ds => obtain ⟨vs, rfl, _⟩ := ha; exact .inl ⟨rfl, vs, .inl (.inl h)⟩
  | dK es => obtain ⟨vs, rfl, _⟩ := ha; exact .inr (.inr (.inl ⟨rfl, .inl ⟨vs, h⟩⟩))
  | dT es => obtain ⟨vs, rfl, _⟩ := ha; exact .inr (.inr (.inl ⟨rfl, .inr ⟨vs, h⟩⟩))
  | O k fs => exact absurd rfl (nO k fs)
theorem ev_mut {T : String} {r : V → List V → Hp → VK → Prop} {f : C → List D → Option (D × C)} {i : Nat} {t : TA} {a : En → Ou (List D)} (hT : T ≠ "") (hs : RSm K cl r f) (ha : EvA K cl W t a) : EvE K cl W (tBM K T r (tVar i) t) (xMut T f i a) := by
  intro F σ H ρ Q S q
  unfold xMut at q
  cases e : ρ[i]? with
  | none => rw [e] at q; exact q.elim
  | some oc =>
    cases oc with
    | none => rw [e] at q; exact q.elim
    | some c =>
      rw [e] at q
      simp only at q
      by_cases hcc : (c.own && tyC c == T) = true
      · rw [if_pos hcc] at q
        rw [Bool.and_eq_true] at hcc
        have hT' : tyC c = T := by simpa using hcc.2
        obtain ⟨p, o, e1, e2, e3, e4⟩ := S.own i c e hcc.1
        refine ⟨_, e1, ?_, ?_⟩
        · rw [← hT']
          exact tyV_own hcc.1 e3 e4 fun k fs z => by subst z; exact hT hT'.symm
        refine ha F σ H ρ _ S ?_
        cases e5 : a ρ with
        | st => rw [e5] at q; exact q
        | er y ρ' => rw [e5] at q; exact q
        | ok ds ρ1 =>
          rw [e5, Ou.bn_ok] at q
          intro xs F1 H1 S1 s1 rl
          cases e6 : ρ1[i]? with
          | none => rw [e6] at q; exact q.elim
          | some oc1 =>
            cases oc1 with
            | none => rw [e6] at q; exact q.elim
            | some c1 =>
              rw [e6] at q
              simp only at q
              by_cases h1 : c1.own = true
              · rw [if_pos h1] at q
                obtain ⟨p1, o1, f1, f2, f3, f4⟩ := S1.own i c1 e6 h1
                rw [e1] at f1; cases f1
                cases e7 : f c1 ds with
                | none => rw [e7] at q; exact q.elim
                | some dc =>
                  obtain ⟨d, c'⟩ := dc
                  rw [e7] at q
                  simp only at q
                  by_cases h2 : c'.own = true
                  · rw [if_pos h2] at q
                    refine hs F1 H1 p o1 c1 xs ds d c' S1.sub f2 f3 f4 rl e7 _ fun z o' rz oz => ?_
                    obtain ⟨S2, s2⟩ := write_ok (pn := fun _ => true) S1 e6 h1 e1 h2 oz
                    exact q z F1 _ S2 (s1.trans s2) rz
                  · rw [if_neg h2] at q; exact q.elim
              · rw [if_neg h1] at q; exact q.elim
      · rw [if_neg hcc] at q; exact q.elim
end
def appendC : C → List D → Option (D × C)
  | .L ds, [d] => if ds.length < sizeLine then some (.non, .L (ds ++ [d])) else none
  | _, _ => none
def extendC : C → List D → Option (D × C)
  | .L ds, [.lst es] => if ds.length + es.length ≤ sizeLine then some (.non, .L (ds ++ es)) else none
  | _, _ => none
theorem rs_append {K : PySem.W.Frag} {cl : Str → Option Addr} : RSm K cl rAppend appendC := by
  intro F H p o c xs ds d c' s fp hp ha rl e Q q
  unfold appendC at e
  split at e
  · rename_i ds0 d0
    split at e
    · rename_i hz
      cases e
      obtain ⟨vs, rfl, r⟩ := ha
      obtain ⟨y, rfl⟩ : ∃ y, xs = [y] := by
        have := rl.1
        match xs, this with
        | [y], _ => exact ⟨y, rfl⟩
      exact ⟨p, vs, y, rfl, rfl, hp, by rw [r.1]; exact hz, q _ _ .non ⟨_, rfl, r.append rl⟩⟩
    · cases e
  · cases e
theorem rs_extend {K : PySem.W.Frag} {cl : Str → Option Addr} : RSm K cl rExtend extendC := by
  intro F H p o c xs ds d c' s fp hp ha rl e Q q
  unfold extendC at e
  split at e
  · rename_i ds0 es
    split at e
    · rename_i hz
      cases e
      obtain ⟨vs, rfl, r⟩ := ha
      obtain ⟨y, rfl⟩ : ∃ y, xs = [y] := by
        have := rl.1
        match xs, this with
        | [y], _ => exact ⟨y, rfl⟩
      have ry := rl.2 0 y _ rfl rfl
      cases ry with
      | @lst b ws _ hb l rr =>
        exact ⟨p, b, vs, ws, rfl, rfl, hp, sub_not s (fun z => z) hb, by rw [r.1, l]; exact hz, q _ _ .non ⟨_, rfl, r.append ⟨l, rr⟩⟩⟩
    · cases e
  · cases e
section
variable {cl : Str → Option Addr} {X : Cx} {e : Expr} {es : List Expr} {er : En → Ou (List D)} {pos apos cpos : Pos} {x : Str} {k : Nat}
theorem ee_mut {T : String} {name : Str} {id : String} {r : V → List V → Hp → VK → Prop} {f : C → List D → Option (D × C)} (i : Nat) (hT : T ≠ "") (pa : PlainAttrs T) (slot : Slot T name id) (hty : typeOf (.builtin id) = pure (.type "method_descriptor")) (hm : MtR X id r) (hs : RSm X.K cl r f)
    (ha : EA cl X (e :: es) er) (hN : X.N[i]? = some x := by rfl) (hv : Vis X.env.scope x := by first | exact Or.inl rfl | exact Or.inr (Or.inl rfl) | exact Or.inr (Or.inr rfl)) (hd : (x == ("__debug__" : Str)) = false := by decide)
    (hcd : (x == ("__classdict__" : Str)) = false := by decide)
    (hbase : attributeBase (.Name x pos) name X.env (eval (.Name x pos) X.env) = eval (.Name x pos) X.env := by rfl)
    (hfew : ((backTo cpos (starEach (e :: es) X.env)).all (fun x => !x.1) && (backToKw cpos (keywordEach [] X.env)).all (fun x => x.1.isSome)
      && decide ((e :: es).length + ([] : List Keyword).length + (if ([] : List Keyword).isEmpty then 0 else 1) < 30)) = true := by rfl)
    (hline : (apos.endLine == cpos.line) = true := by rfl) (hss : starEach (e :: es) X.env = (false, eval e X.env) :: starEach es X.env := by rfl) (hplain : (backTo cpos (starEach es X.env)).any (·.1) = false := by rfl) :
    EE cl X (.Call (.Attribute (.Name x pos) name apos) (e :: es) [] cpos) (xMut T f i er) := fun W tk =>
  let ⟨_, p1, v1⟩ := ha W tk; ⟨_, pe_bm pa slot hty hm (pe_var hN hv hd hcd) p1 hbase hfew hline hss hplain, ev_mut hT hs v1⟩
theorem ee_append (i : Nat) (ha : EA cl X (e :: es) er) (hN : X.N[i]? = some x := by rfl) (hv : Vis X.env.scope x := by first | exact Or.inl rfl | exact Or.inr (Or.inl rfl) | exact Or.inr (Or.inr rfl)) (hd : (x == ("__debug__" : Str)) = false := by decide)
    (hcd : (x == ("__classdict__" : Str)) = false := by decide)
    (hbase : attributeBase (.Name x pos) "append" X.env (eval (.Name x pos) X.env) = eval (.Name x pos) X.env := by rfl)
    (hfew : ((backTo cpos (starEach (e :: es) X.env)).all (fun x => !x.1) && (backToKw cpos (keywordEach [] X.env)).all (fun x => x.1.isSome)
      && decide ((e :: es).length + ([] : List Keyword).length + (if ([] : List Keyword).isEmpty then 0 else 1) < 30)) = true := by rfl)
    (hline : (apos.endLine == cpos.line) = true := by rfl) (hss : starEach (e :: es) X.env = (false, eval e X.env) :: starEach es X.env := by rfl) (hplain : (backTo cpos (starEach es X.env)).any (·.1) = false := by rfl) :
    EE cl X (.Call (.Attribute (.Name x pos) "append" apos) (e :: es) [] cpos) (xMut "list" appendC i er) :=
  ee_mut i (by decide) PySem.F.plainAttrs_list PySem.F.slot_list_append PySem.F.type_list_append mt_append rs_append ha hN hv hd hcd hbase hfew hline hss hplain
theorem ee_extend (i : Nat) (ha : EA cl X (e :: es) er) (hN : X.N[i]? = some x := by rfl) (hv : Vis X.env.scope x := by first | exact Or.inl rfl | exact Or.inr (Or.inl rfl) | exact Or.inr (Or.inr rfl)) (hd : (x == ("__debug__" : Str)) = false := by decide)
    (hcd : (x == ("__classdict__" : Str)) = false := by decide)
    (hbase : attributeBase (.Name x pos) "extend" X.env (eval (.Name x pos) X.env) = eval (.Name x pos) X.env := by rfl)
    (hfew : ((backTo cpos (starEach (e :: es) X.env)).all (fun x => !x.1) && (backToKw cpos (keywordEach [] X.env)).all (fun x => x.1.isSome)
      && decide ((e :: es).length + ([] : List Keyword).length + (if ([] : List Keyword).isEmpty then 0 else 1) < 30)) = true := by rfl)
    (hline : (apos.endLine == cpos.line) = true := by rfl) (hss : starEach (e :: es) X.env = (false, eval e X.env) :: starEach es X.env := by rfl) (hplain : (backTo cpos (starEach es X.env)).any (·.1) = false := by rfl) :
    EE cl X (.Call (.Attribute (.Name x pos) "extend" apos) (e :: es) [] cpos) (xMut "list" extendC i er) :=
  ee_mut i (by decide) PySem.F.plainAttrs_list PySem.F.slot_list_extend PySem.F.type_list_extend mt_extend rs_extend ha hN hv hd hcd hbase hfew hline hss hplain
theorem ee_join {o : Expr} {eo : En → Ou R} {er : En → Ou (List R)} (ho : EE cl X o eo) (ha : EK cl X (e :: es) er)
    (hbase : attributeBase o "join" X.env (eval o X.env) = eval o X.env := by rfl)
    (hfew : ((backTo cpos (starEach (e :: es) X.env)).all (fun x => !x.1) && (backToKw cpos (keywordEach [] X.env)).all (fun x => x.1.isSome)
      && decide ((e :: es).length + ([] : List Keyword).length + (if ([] : List Keyword).isEmpty then 0 else 1) < 30)) = true := by rfl)
    (hline : (apos.endLine == cpos.line) = true := by rfl) (hss : starEach (e :: es) X.env = (false, eval e X.env) :: starEach es X.env := by rfl) (hplain : (backTo cpos (starEach es X.env)).any (·.1) = false := by rfl) :
    EE cl X (.Call (.Attribute o "join" apos) (e :: es) [] cpos) (xSM joinD eo er) := ee_sm PySem.F.slot_str_join PySem.F.type_str_join mt_join rs_join ho ha hbase hfew hline hss hplain
end
/-! ### x[k] = v of what slot i owns -/
def putC : C → D → D → Option C
  | .L ds, .int k, d => (ixN ds.length k).map fun j => .L (ds.set j d)
  | .dK es, k, d => (keyD k).bind fun k => if es.length < sizeLine then some (.dK (putD es k d)) else none
  | .dT es, .tup (k :: ks), d => (keysD (k :: ks)).bind fun k => if es.length < sizeLine then some (.dT (putD es k d)) else none
  | _, _, _ => none
def gIx (i : Nat) (ix : En → Ou R) (d : D) (ρ : En) : Ou Unit := match ρ[i]? with
  | some (some c0) => if c0.own then (vl ix ρ).bn fun k ρ1 => (match ρ1[i]? with
    | some (some c) => (match putC c k d with
      | some c' => .ok () (ρ1.set i (some c'))
      | none => .st)
    | _ => .st) else .st
  | _ => .st
section
variable {K : PySem.W.Frag} {cl : Str → Option Addr} {F F' F1 F2 H H' H1 H2 H0 F0 : Hp} {σ σ1 σ2 σ0 : L2.St} {ρ ρ0 ρ1 ρ2 ρb : En} {pn : Nat → Bool} {v x : V} {d : D} {W : WX}
theorem putC_own {c c' : C} {k d : D} (h : putC c k d = some c') : c.own = true ∧ c'.own = true := by
  unfold putC at h
  split at h
  · obtain ⟨j, _, rfl⟩ := Option.map_eq_some_iff.mp h; exact ⟨rfl, rfl⟩
  · obtain ⟨j, _, e⟩ := Option.bind_eq_some_iff.mp h
    split at e
    · cases e; exact ⟨rfl, rfl⟩
    · cases e
  · obtain ⟨j, _, e⟩ := Option.bind_eq_some_iff.mp h
    split at e
    · cases e; exact ⟨rfl, rfl⟩
    · cases e
  · cases h
def rSetA : TSet := fun o i v H Q => rSetL o i v H Q ∨ rSetD o i v H Q
theorem put_ok {c c' : C} {p : Addr} {o : HO} {y : V} {k : D} {Q : Hp → Prop} (s : Sub F H) (hp : H p = some o) (ha : OwnAt K cl F o c) (hk : Rep K cl F y k) (hx : Rep K cl F x d) (e : putC c k d = some c') (q : ∀ o', OwnAt K cl F o' c' → Q (upd H p o')) : rSetA (.ref p) y x H Q := by
  unfold putC at e
  split at e
  · rename_i ds k
    obtain ⟨j, e1, rfl⟩ := Option.map_eq_some_iff.mp e
    obtain ⟨vs, rfl, r⟩ := ha
    cases hk
    exact .inl ⟨p, vs, k, j, rfl, rfl, hp, by rw [r.1]; exact e1, q _ ⟨_, rfl, r.set j hx⟩⟩
  · rename_i es k
    obtain ⟨kk, e1, e2⟩ := Option.bind_eq_some_iff.mp e
    split at e2
    · rename_i hz
      cases e2
      obtain ⟨vs, rfl, r⟩ := ha
      have := hk.key e1; subst this
      exact .inr ⟨p, _, rfl, DPut.k hp (by rw [r.length]; exact hz), q _ ⟨_, rfl, r.put kk hx⟩⟩
    · cases e2
  · rename_i es k ks
    obtain ⟨kk, e1, e2⟩ := Option.bind_eq_some_iff.mp e
    split at e2
    · rename_i hz
      cases e2
      obtain ⟨vs, rfl, r⟩ := ha
      cases hk with
      | @tup b ws _ hb e l rr =>
        have hw := RepL.keys ⟨l, rr⟩ e1
        have hb' : H b = some (.tup (kk.map kV)) := by
          rcases e with z | z
          · rw [z] at l; simp at l
          · rw [← hw]; exact sub_not s (fun z => z) z
        exact .inr ⟨p, _, rfl, DPut.t hp hb' (by rw [r.length]; exact hz), q _ ⟨_, rfl, r.put kk hx⟩⟩
    · cases e2
  · cases e
theorem ev_gIx {i : Nat} {te : TE} {ix : En → Ou R} (hi : EvE K cl W te ix) : EvG K cl pn W (gSub (tVar i) te rSetA) (gIx i ix) := by
  intro F σ H ρ x d Q S rx q
  unfold gIx at q
  cases e : ρ[i]? with
  | none => rw [e] at q; exact q.elim
  | some oc =>
    cases oc with
    | none => rw [e] at q; exact q.elim
    | some c =>
      rw [e] at q
      simp only at q
      by_cases hc : c.own = true
      · rw [if_pos hc] at q
        obtain ⟨p, o, e1, e2, e3, e4⟩ := S.own i c e hc
        refine ⟨_, e1, ?_⟩
        refine hi.val F σ H ρ _ S ?_
        cases e5 : vl ix ρ with
        | st => rw [e5] at q; exact q
        | er y ρ' => rw [e5] at q; exact fun c d F' H' S' s' er => q c d σ F' H' S' s'.wk er
        | ok k ρ1 =>
          rw [e5, Ou.bn_ok] at q
          intro y F1 H1 S1 s1 rk
          cases e6 : ρ1[i]? with
          | none => rw [e6] at q; exact q.elim
          | some oc1 =>
            cases oc1 with
            | none => rw [e6] at q; exact q.elim
            | some c1 =>
              rw [e6] at q
              simp only at q
              cases e7 : putC c1 k d with
              | none => rw [e7] at q; exact q.elim
              | some c' =>
                rw [e7] at q
                obtain ⟨h1, h2⟩ := putC_own e7
                obtain ⟨p1, o1, f1, f2, f3, f4⟩ := S1.own i c1 e6 h1
                rw [e1] at f1; cases f1
                refine put_ok S1.sub f3 f4 rk (rx.mono s1.mono) e7 fun o' oz => ?_
                obtain ⟨S2, s2⟩ := write_ok (pn := pn) S1 e6 h1 e1 h2 oz
                exact q σ F1 _ S2 (s1.wk.trans s2)
      · rw [if_neg hc] at q; exact q.elim
end
section
variable {cl : Str → Option Addr} {pn : Nat → Bool} {X : Cx} {e : Expr} {ex : En → Ou R} {pos npos : Pos} {x : Str} {k : Nat}
theorem PSet.or' {X : Cx} {t t' : TSet} (h : PSet X t) (h' : PSet X t') : PSet X (fun o i v H Q => t o i v H Q ∨ t' o i v H Q) := fun pins s σ H o i v ov iv u Q I ro ri rv q =>
  q.elim (fun q => h pins s σ H o i v ov iv u Q I ro ri rv q) fun q => h' pins s σ H o i v ov iv u Q I ro ri rv q
/-- x[e] as a target -/
theorem eg_ix (i : Nat) (hr : Room k X.A) (he : EE cl X e ex) (hN : X.N[i]? = some x := by rfl) (hv : Vis X.env.scope x := by first | exact Or.inl rfl | exact Or.inr (Or.inl rfl) | exact Or.inr (Or.inr rfl)) (hd : (x == ("__debug__" : Str)) = false := by decide)
    (hcd : (x == ("__classdict__" : Str)) = false := by decide)
    (ha : ∀ v, assign (.Subscript (.Name x npos) e pos) X.env v = (do
      let ov ← holding [v] (eval (.Name x npos) X.env)
      let iv ← holding [v, ov] (eval e X.env)
      standAt pos
      holding [v, ov, iv] (setItem ov iv v)
      release [v, ov, iv] []) := by intro _; rfl) : EG cl pn X (.Subscript (.Name x npos) e pos) (gIx i ex) := fun W tk =>
  let ⟨_, p, v⟩ := he W tk; ⟨_, pg_sub (pe_var hN hv hd hcd) p (PSet.or' set_list (set_dict (hu_of hr))) ha, ev_gIx v⟩
end
/-! ### {} -/
def xNew (c : C) : En → Ou R := fun ρ => .ok (.o c) ρ
section
variable {cl : Str → Option Addr} {X : Cx} {pos : Pos}
theorem ee_newK : EE cl X (.Dict [] [] pos) (xNew (.dK [])) := fun W tk => ⟨_, pe_dnewK, fun F σ H ρ Q S q p n => by
  have g : Grow F H F (upd H p (.dK [])) := Grow.new S.sub n
  refine q (.ref p) F _ (g.sta S) g.stp ⟨p, _, rfl, rfl, sub_none S.sub n, upd_same, ⟨_, rfl, RepKs.nil⟩, fun z => ?_, .inr n⟩
  obtain ⟨i, c, a1, a2, a3⟩ := z
  obtain ⟨p', o, e1, e2, e3, e4⟩ := S.own i c a1 a2
  rw [a3] at e1; cases e1
  rw [n] at e3; cases e3⟩
theorem ee_newT : EE cl X (.Dict [] [] pos) (xNew (.dT [])) := fun W tk => ⟨_, pe_dnewT, fun F σ H ρ Q S q p n => by
  have g : Grow F H F (upd H p (.dT [])) := Grow.new S.sub n
  refine q (.ref p) F _ (g.sta S) g.stp ⟨p, _, rfl, rfl, sub_none S.sub n, upd_same, ⟨_, rfl, RepKs.nil⟩, fun z => ?_, .inr n⟩
  obtain ⟨i, c, a1, a2, a3⟩ := z
  obtain ⟨p', o, e1, e2, e3, e4⟩ := S.own i c a1 a2
  rw [a3] at e1; cases e1
  rw [n] at e3; cases e3⟩
end
/-! ### name op= e, ints -/
def sAug (i : Nat) (f : Int → Int → Int) (ex : En → Ou R) : En → Ou Fl := fun ρ => match ρ[i]? with
  | some (some (.v (.int a))) => (vl ex ρ).bn fun d ρ1 => (match d with
    | .int b => .ok .nx (ρ1.set i (some (.v (.int (f a b)))))
    | _ => .st)
  | _ => .st
theorem ev_aug {K : PySem.W.Frag} {cl : Str → Option Addr} {pn : Nat → Bool} {W : WX} {i : Nat} {f : Int → Int → Int} {te : TE} {ex : En → Ou R} (hp : pn i = false) (h : EvE K cl W te ex) : EvS K cl pn W (tAug i te (ipI f)) (sAug i f ex) := by
  intro F σ H ρ D S q
  unfold sAug at q
  split at q
  · rename_i a e
    obtain ⟨x, e1, r⟩ := S.val i _ e
    cases r
    refine ⟨_, e1, ?_⟩
    refine h.val.then (P := PstS K cl pn W D σ ρ F H) S q (fun z => z) (fun _ _ z c d F' H' S' s' er => z c d σ F' H' S' s'.wk er) fun d ρ1 q x F1 H1 S1 s1 rel => ?_
    split at q
    · cases rel
      refine ⟨_, _, rfl, rfl, q _ F1 H1 (S1.store (x := .int _) (c := .v (.int _)) (.int _)) (s1.wk.store S1.len hp fun _ _ z => by cases z)⟩
    · exact q.elim
  · exact q.elim
section
variable {cl : Str → Option Addr} {pn : Nat → Bool} {X : Cx} {e : Expr} {ex : En → Ou R} {pos pos' : Pos} {x : Str}
theorem es_augAdd (i : Nat) (hN : X.N.Nodup) (he : EE cl X e ex) (hp : pn i = false := by rfl) (hi : X.N[i]? = some x := by rfl) (hx : Loc X.env.scope x := by first | exact Or.inl rfl | exact Or.inr rfl)
    (hf : X.fn x = true ∨ X.env.scope.names.lookup x = some .local := by first | exact .inl rfl | exact .inr rfl) : ES cl pn X (.AugAssign (.Name x pos') .Add e pos) (sAug i (fun a b => a + b) ex) := fun W tk =>
  let ⟨_, p, v⟩ := he W tk; ⟨_, ps_aug hN hi hx p ip_add hf, ev_aug hp v⟩
theorem es_augSub (i : Nat) (hN : X.N.Nodup) (he : EE cl X e ex) (hp : pn i = false := by rfl) (hi : X.N[i]? = some x := by rfl) (hx : Loc X.env.scope x := by first | exact Or.inl rfl | exact Or.inr rfl)
    (hf : X.fn x = true ∨ X.env.scope.names.lookup x = some .local := by first | exact .inl rfl | exact .inr rfl) : ES cl pn X (.AugAssign (.Name x pos') .Sub e pos) (sAug i (fun a b => a - b) ex) := fun W tk =>
  let ⟨_, p, v⟩ := he W tk; ⟨_, ps_aug hN hi hx p ip_sub hf, ev_aug hp v⟩
end
end Dm
end TxtDm15

section TxtDm16
set_option Elab.async false
set_option linter.all false
set_option maxRecDepth 100000
/-! Dm16: enumerate of a list or a tuple. -/
namespace Dm
open PySem PySem.Spec PyProof.Rows L2

theorem meets_enumerate_newT (l : Addr) (items : Array Value) (n : Nat) (dct : Option Addr) (sl : Array (Option Value)) :
    Meets (Builtin.«enumerate.__new__» ⟨[.type "enumerate", .ref l], []⟩) (fun _ R s => s.heap.get? l = some { cls := .type "tuple", dict := dct, data := .seq items n, slots := sl } ∧
      R (.ok (.ret (.ref (s.heap.push { cls := .type "tuple_iterator", data := .fields #[.ref l, .int 0 0] }).objs.size)))
        { s with heap := (s.heap.push { cls := .type "tuple_iterator", data := .fields #[.ref l, .int 0 0] }).push { cls := .type "enumerate", data := .fields #[.none, .bool false, .ref s.heap.objs.size, rawInt 0, .none, .none] } }) :=
  .of_wp fun prog w A R s h => by
    obtain ⟨hp, g, d, tk, os⟩ := s; obtain ⟨hl, h⟩ := h
    have hsub := sub_enumerate
    have hL : Heap.IsTuple (Shared.heap ⟨hp, g, d, tk, os⟩) l items := ⟨_, hl, rfl, n, rfl⟩
    wp_walk using AutoSeq1.wpAny_loadPart' hl
    refine wpAny_stack_any fun st => wpAny_pure ?_
    split
    · rename_i c _ _ _ _ _
      cases (c == Value.type "enumerate")
      · wp_walk using AutoSeq1.wpAny_loadPart' hl, wpAny_pyIter_tuple hL
        exact ⟨_, rfl, h⟩
      · wp_walk using AutoSeq1.wpAny_loadPart' hl, wpAny_pyIter_tuple hL
        exact ⟨_, rfl, h⟩
    · wp_walk using AutoSeq1.wpAny_loadPart' hl, wpAny_pyIter_tuple hL
      exact ⟨_, rfl, h⟩
section
variable {prog : Program} {w : World} {A : Around} {E : Value → Shared → Prop} {s : Shared}
theorem call_enumerate_tup {l : Addr} {items : Array Value} {Q : Value → Shared → Prop} (hL : s.heap.IsTuple l items)
    (h : ∀ h', IsEnum h' (s.heap.objs.size + 1) s.heap.objs.size 0 .none → h'.IsTupleIter s.heap.objs.size l 0 → h'.objs.size = s.heap.objs.size + 2 →
      (∀ b o, s.heap.get? b = some o → h'.get? b = some o) → Q (.ref (s.heap.objs.size + 1)) { s with heap := h' }) :
    wpAny (model prog w) A (call (.type "enumerate") [.ref l]) Q E s := by
  obtain ⟨⟨c, dct, dt, sl⟩, hl, hc, n, hd⟩ := hL
  replace hc : c = .type "tuple" := hc
  replace hd : dt = .seq items n := hd
  subst hc hd
  refine callType_new F.called_enumerate (by decide) (F.typeCall_enumerate_1 _) (F.newCall_enumerate_1 _) (fun obj => F.args_object_init_2 obj _) F.entry_enumerate_new
    (meets_enumerate_newT l items n dct sl) ⟨hl, ?_⟩
  have hz : (s.heap.push { cls := .type "tuple_iterator", data := .fields #[.ref l, .int 0 0] }).objs.size = s.heap.objs.size + 1 := Heap.size_push ..
  show _ ∧ _
  rw [hz]
  have he : IsEnum ((s.heap.push { cls := .type "tuple_iterator", data := .fields #[.ref l, .int 0 0] }).push
      { cls := .type "enumerate", data := .fields #[.none, .bool false, .ref s.heap.objs.size, rawInt 0, .none, .none] }) (s.heap.objs.size + 1) s.heap.objs.size 0 .none := by
    have := Heap.get?_push_size (s.heap.push { cls := .type "tuple_iterator", data := .fields #[.ref l, .int 0 0] })
      (o := { cls := .type "enumerate", data := .fields #[.none, .bool false, .ref s.heap.objs.size, rawInt 0, .none, .none] }) rfl
    rw [hz] at this; exact this
  refine ⟨⟨_, he, rfl⟩, h _ he ⟨_, Heap.get?_push_of_some _ (Heap.get?_push_size _ rfl), rfl, rfl⟩ (by rw [Heap.size_push, hz]) fun b o x => Heap.get?_push_of_some _ (Heap.get?_push_of_some _ x)⟩
end
/-- the tuple at a, each item in a new pair -/
def ItTe (K : PySem.W.Frag) (a : Addr) (xs : List V) : It :=
  ⟨fun i H => SqT K H a xs ∧ ∃ x : V, xs[i]? = some x, fun i H v H' => ∃ T x, v = .ref T ∧ H T = none ∧ H' = upd H T (.tup [.int (i : Nat), x]) ∧ xs[i]? = some x, fun i H => SqT K H a xs ∧ xs.length = i⟩
theorem turn_enumT {P : Program} {w : World} {K : PySem.W.Frag} {elts : List Expr} {kk : Nat} {tpos : Pos} (a e it : Addr) (xs : List V) :
    Turn P w K (.Tuple elts kk tpos) (ItTe K a xs) [e, it] e (fun i h => (∃ old, IsEnum h e it ((i : Nat) : Int) old) ∧ h.IsTupleIter it a i ∧ e ≠ it ∧ e ≠ a ∧ a ≠ it) where
  mem := by simp
  obj := fun i h st b hb => by
    obtain ⟨⟨old, he⟩, ⟨o, ho, hc, hd⟩, _⟩ := st
    have e' : b = e ∨ b = it := by simpa using hb
    rcases e' with z | z
    · rw [z]; exact ⟨_, he, fun v q => nomatch q⟩
    · rw [z]; exact ⟨o, ho, fun v q => by rw [hd] at q; cases q⟩
  keep := fun i h h' st k => let ⟨⟨old, he⟩, hi, hne⟩ := st; ⟨⟨old, k e (by simp) _ he⟩, hi.at fun o q => k it (by simp) o q, hne⟩
  item := by
    intro X hP hw hK hc i pins s σ H E I hf st hg
    subst hP hw hK
    obtain ⟨⟨old, he⟩, hit, hne, hea, hai⟩ := st
    obtain ⟨hq, x, hx⟩ := hg
    obtain ⟨its, rv, p, hz⟩ := I.tuple hq
    obtain ⟨u, hu, ru⟩ := rv.get hx
    have hel : e < s.heap.objs.size := Heap.lt_size he
    have hil : it < s.heap.objs.size := by obtain ⟨_, q, _⟩ := hit; exact Heap.lt_size q
    have hlt : i < its.toArray.size := by
      have := (List.getElem?_eq_some_iff.mp hu).1
      simpa using this
    refine wpAny_pyNext_enum_itemD (Draws.tuple (A := X.A.in1) (I.ok.hd hc) it a hai its.toArray) he ⟨hit, p⟩ hlt hne (by simp [hne, hea]) fun y h' tk hy ho hst hT hsz hk => ?_
    have hyu : y = u := by
      have hy' : its[i]? = some y := by simpa using hy
      rw [hu] at hy'; exact (Option.some.inj hy').symm
    subst hyu
    refine ⟨_, rfl, wpAny_letOwnedTupleGo_enum (s := { s with heap := h', toks := tk + 1 }) ho fun h'' he' sb => ?_⟩
    have hT2 : h''.get? s.heap.objs.size = some { cls := .type "tuple", data := .seq #[.int i tk, y] } := (sb.2 _ (Nat.ne_of_gt hel)).trans hT
    have new : ObjOk X.prog X.w (upd H s.heap.objs.size (.tup [.int (i : Nat), x])) h'' s.heap.objs.size (.tup [.int (i : Nat), x]) :=
      ⟨by show 2 ≤ sizeLine; decide, [.int i tk, y], .cons ⟨_, rfl⟩ (.cons ru .nil), ⟨_, hT2, rfl, _, rfl⟩⟩
    have I1 : Inv X pins σ (upd H s.heap.objs.size (.tup [.int (i : Nat), x])) { s with heap := h'', toks := tk + 1 } :=
      I.turnedNew (ch := [e, it]) (fun b ob hb q => (sb.2 b (fun z => hb (by simp [z]))).trans (hk b ob (fun z => hb (by simp [z])) (fun z => hb (by simp [z])) q)) hf (Nat.le_refl _) new
    refine ⟨.ref s.heap.objs.size, _, I1, rfl, ⟨_, x, rfl, I.hok.fresh (Nat.le_refl _), rfl, hx⟩, ⟨⟨y, ?_⟩, hst.1.at fun o q => (sb.2 it (Ne.symm hne)).trans q, hne, hea, hai⟩, fun b hb => ?_⟩
    · have e1 : ((i + 1 : Nat) : Int) = (i : Int) + 1 := by omega
      rw [e1]; exact he'
    · have hb' : b < s.heap.objs.size := by
        have e' : b = e ∨ b = it := by simpa using hb
        rcases e' with z | z
        · rw [z]; exact hel
        · rw [z]; exact hil
      rw [upd_ne (Nat.ne_of_lt hb')]
      exact (hf b hb).1
  done := by
    intro X hP hw hK hc i pins s σ H E I hf st hg
    subst hP hw hK
    obtain ⟨⟨old, he⟩, hit, hne, hea, hai⟩ := st
    obtain ⟨hq, hx⟩ := hg
    obtain ⟨its, rv, p, hz⟩ := I.tuple hq
    obtain ⟨f0, f1, f2, f3, f4, f5⟩ := hf it (by simp)
    have hl := rv.length
    have hi : i = its.toArray.size := by simp only [List.size_toArray]; omega
    subst hi
    exact wpAny_pyNext_enum_endD (Draws.tuple (A := X.A.in1) (I.ok.hd hc) it a hai its.toArray) he ⟨hit, p⟩ fun h' eb => ⟨rfl, I.turned (t' := s.toks) (fun b o hb q => eb b o hb q) f0 f1 f3 f4 f5⟩
  self := fun A i s Q E st h => let ⟨⟨_, he⟩, _⟩ := st; wpAny_pyIter_enum he h
def iEnumT (K : PySem.W.Frag) (ta : TA) : TI := fun σ H R => ta σ H fun vs H1 => ∃ a xs, vs = [.ref a] ∧ SqT K H1 a xs ∧ R (ItTe K a xs) H1
theorem pi_enumT {X : Cx} {e : Expr} {ta : TA} {p pos tpos : Pos} {elts : List Expr} {kk : Nat} (hg : Gl X "enumerate") (hm : X.mg "enumerate" = none) (ha : PA X [e] ta) (hs : starEach [e] X.env = [(false, eval e X.env)] := by rfl) :
    PI X (.Tuple elts kk tpos) (.Call (.Name "enumerate" p) [e] [] pos) (iEnumT X.K ta) := by
  refine ⟨fun pins s σ H R I h => ?_⟩
  refine Call_ (ld_blt I hg hm boot_enumerate (PyProof.Rows.callWith_type1 (thn (ha.run pos pins s σ H _ I h) fun us s1 ⟨vs, H1, I1, r1, q1⟩ => ?_) hs rfl))
  obtain ⟨a, xs, ex, hq, q⟩ := q1
  subst ex
  cases r1 with
  | cons r rr =>
    cases rr
    cases r
    obtain ⟨its, rv, p', hz⟩ := I1.tuple hq
    have hal : a < s1.heap.objs.size := by obtain ⟨o, e, _⟩ := p'; exact Heap.lt_size e
    refine call_enumerate_tup p' fun h' he hit hsz hk => wpAny_pyIter_enum he ?_
    have I2 : Inv X pins σ H1 { s1 with heap := h' } := I1.kept (t' := s1.toks) hk
    refine ⟨s1.heap.objs.size + 1, [s1.heap.objs.size + 1, s1.heap.objs.size], _, _, H1, rfl, I2, turn_enumT a (s1.heap.objs.size + 1) s1.heap.objs.size xs, ⟨⟨.none, he⟩, hit, Nat.succ_ne_self _, Nat.ne_of_gt (Nat.lt_succ_of_lt hal), Nat.ne_of_lt hal⟩, fun b hb => ?_, q⟩
    have e' : b = s1.heap.objs.size + 1 ∨ b = s1.heap.objs.size := by simpa using hb
    have hle : s1.heap.objs.size ≤ b := by
      rcases e' with z | z
      · rw [z]; exact Nat.le_add_right _ _
      · rw [z]; exact Nat.le_refl _
    exact I1.fpOk hle (I1.hok.fresh hle)
/-- enumerate of a list or a tuple -/
def iEnumA (ex : En → Ou R) : En → Ou (List D) := fun ρ => (vl ex ρ).bn fun d ρ1 => match d with
  | .lst ds => .ok (enumD ds) ρ1
  | .tup ds => .ok (enumD ds) ρ1
  | _ => .st
section
variable {K : PySem.W.Frag} {cl : Str → Option Addr} {W : WX}
theorem ev_ienumA {ta : TE} {ex : En → Ou R} (h : EvE K cl W ta ex) : EvI K cl W (fun σ H R => iEnum K (tCons ta tNil) σ H R ∨ iEnumT K (tCons ta tNil) σ H R) (iEnumA ex) := by
  intro F σ H ρ R S q
  unfold iEnumA at q
  cases e : vl ex ρ with
  | st => rw [e] at q; exact q.elim
  | er y ρ' => rw [e] at q; exact .inl (h.val F σ H ρ _ S (by rw [e]; exact q))
  | ok d ρ1 =>
    rw [e, Ou.bn_ok] at q
    cases d with
    | lst ds =>
      refine .inl (h.val F σ H ρ _ S ?_)
      rw [e]
      intro x F1 H1 S1 s1 r
      cases r with
      | @lst a vs ds h l r =>
        refine ⟨a, vs, rfl, .inl (.inl (sub_not S1.sub (fun z => z) h)), q _ F1 H1 S1 s1 ⟨fun F2 H2 i d m _ s e => ?_, fun F2 H2 m _ s => ?_⟩⟩
        · have hq : SqL K H2 a vs := .inl (.inl (sub_not s (fun z => z) (m _ _ h)))
          obtain ⟨d', e1, rfl⟩ := enumD_get e
          obtain ⟨v, e2, rv⟩ := RepL.get (⟨l, r⟩ : RepL K cl F1 vs ds) e1
          refine ⟨⟨vs, v, hq, e2⟩, fun x H' y => ?_⟩
          obtain ⟨T, x', rfl, hT, rfl, hx⟩ := y
          have := hx vs hq
          rw [e2] at this; cases this
          obtain ⟨g, rr⟩ := resT (cl := cl) s hT (RepL.cons (.int ((i : Nat) : Int)) (RepL.one (rv.mono m)))
          exact ⟨_, g, rr⟩
        · refine ⟨vs, .inl (.inl (sub_not s (fun z => z) (m _ _ h))), ?_⟩
          rw [enumD_length, l]
          exact Nat.le_refl _
    | tup ds =>
      refine .inr (h.val F σ H ρ _ S ?_)
      rw [e]
      intro x F1 H1 S1 s1 r
      cases r with
      | @tup a vs ds h _ l r =>
        refine ⟨a, vs, rfl, sqT_sub S1.sub h, q _ F1 H1 S1 s1 ⟨fun F2 H2 i d m _ s e => ?_, fun F2 H2 m _ s => ?_⟩⟩
        · have hq : SqT K H2 a vs := sqT_sub s (sqT_mono m h)
          obtain ⟨d', e1, rfl⟩ := enumD_get e
          obtain ⟨v, e2, rv⟩ := RepL.get (⟨l, r⟩ : RepL K cl F1 vs ds) e1
          refine ⟨⟨hq, v, e2⟩, fun x H' y => ?_⟩
          obtain ⟨T, x', rfl, hT, rfl, hx⟩ := y
          rw [e2] at hx; cases hx
          obtain ⟨g, rr⟩ := resT (cl := cl) s hT (RepL.cons (.int ((i : Nat) : Int)) (RepL.one (rv.mono m)))
          exact ⟨_, g, rr⟩
        · exact ⟨sqT_sub s (sqT_mono m h), by rw [enumD_length, l]⟩
    | _ => exact q.elim
end
theorem ei_enum {cl : Str → Option Addr} {X : Cx} {e : Expr} {ex : En → Ou R} {pos : Pos} {elts : List Expr} {kk : Nat} {tpos p : Pos} (hm : X.mg "enumerate" = none) (h : EE cl X e ex) (hg : Gl X "enumerate" := by rfl) (hs : starEach [e] X.env = [(false, eval e X.env)] := by rfl) :
    EI cl X (.Tuple elts kk tpos) (.Call (.Name "enumerate" p) [e] [] pos) (iEnumA ex) := fun W tk =>
  let ⟨_, pp, v⟩ := h W tk; ⟨_, PI.or (pi_enum hg hm (pa_cons pp pa_nil hs) hs) (pi_enumT hg hm (pa_cons pp pa_nil hs) hs), ev_ienumA v⟩
end Dm
end TxtDm16

section TxtDm17
set_option Elab.async false
set_option linter.all false
set_option maxRecDepth 100000
/-! Dm17: repr; calls by keywords; the end. -/
namespace Dm
open PySem PySem.Spec PyProof.Rows L2

/-! ### repr of lists and tuples -/
def isSeq : PyData → Bool
  | .list _ => true
  | .tuple _ => true
  | _ => false
def reprOk (p : PyData) : Bool := isSeq p && p.showable && !p.hasDict && decide (p.depth ≤ 100) && decide (p.shown.length ≤ sizeLine)
def rRepr (K : PySem.W.Frag) : List V → Hp → VK → Prop := fun xs H Q => (∃ x p, xs = [x] ∧ Dp K H x p ∧ reprOk p = true ∧ Q (.str p.shown) H) ∨ ∃ i, xs = [.int i] ∧ i.natAbs.log2 < 1920 ∧ Q (.str (toString i)) H
theorem cr_repr0 {X : Cx} {k : Nat} (hr : Rm k X.A) : CallR X (.builtin "repr") (fun xs H Q => ∃ x p, xs = [x] ∧ Dp X.K H x p ∧ reprOk p = true ∧ Q (.str p.shown) H) := by
  intro pins s σ H xs us Q I r h
  obtain ⟨x, p, rfl, dp, ok, q⟩ := h
  obtain ⟨u, rfl, rx⟩ := vals1 r
  unfold reprOk at ok
  simp only [Bool.and_eq_true, decide_eq_true_eq] at ok
  obtain ⟨⟨⟨⟨o1, o2⟩, o3⟩, o4⟩, o5⟩ := ok
  obtain ⟨as, rd⟩ := Dp.reads I p x u dp rx
  obtain ⟨a, rfl⟩ : ∃ a, u = .ref a := by
    cases p with
    | list ps => cases rd; exact ⟨_, rfl⟩
    | tuple ps => cases rd; exact ⟨_, rfl⟩
    | _ => cases o1
  have hd : p.hasDict = false := by simpa using o3
  have hu : X.A.units + (p.depth + 1) < cLine := by have := hr.room.un; omega
  exact repr_of_reads' rd o2 (fun e => by rw [hd] at e; cases e) hr.g hu (fun _ _ e => e) (fun h' t tk hk => ⟨.str _, H, I.kept hk, ⟨t, rfl⟩, q⟩) o5
theorem cr_repr {X : Cx} {k : Nat} (hr : Rm k X.A) : CallR X (.builtin "repr") (rRepr X.K) := (cr_repr0 hr).or SkE.call_repr_int
def reprD : List D → Option R
  | [.int i] => if i.natAbs.log2 < 1920 then some (.v (.str (toString i))) else none
  | [d] => match d.py with
    | some p => if reprOk p then some (.v (.str p.shown)) else none
    | none => none
  | _ => none
theorem rs_repr {K : PySem.W.Frag} {cl : Str → Option Addr} : RSn K cl (rRepr K) reprD := by
  intro F H xs ds out s hp e Q q
  unfold reprD at e
  split at e
  · obtain ⟨x, rfl, h⟩ := hp.one
    cases h
    split at e
    · rename_i hz
      cases e
      exact .inr ⟨_, rfl, hz, q _ F H (Grow.refl s) (.str _)⟩
    · cases e
  · obtain ⟨x, rfl, h⟩ := hp.one
    split at e
    · rename_i p hpp
      split at e
      · rename_i ok
        cases e
        exact .inl ⟨x, p, rfl, h.dp s hpp, ok, q _ F H (Grow.refl s) (.str _)⟩
      · cases e
    · cases e
  · cases e

/-! ### ranges by name -/
def xRng1 (ex : En → Ou R) : En → Ou (List D) := fun ρ => (aCons ex aNil ρ).bn fun ds ρ1 => match ds with
    | [.int j] => if okR j then .ok (rngD 0 j) ρ1 else .st
    | _ => .st
def xRng2 (ex ex2 : En → Ou R) : En → Ou (List D) := fun ρ => (aCons ex (aCons ex2 aNil) ρ).bn fun ds ρ1 => match ds with
    | [.int i, .int j] => if okR i && okR j then .ok (rngD i j) ρ1 else .st
    | _ => .st
section
variable {cl : Str → Option Addr} {X : Cx} {tg e : Expr} {ex : En → Ou R} {pos : Pos}
theorem ei_rng1 {a : Expr} {p : Pos} (hm : X.mg "range" = none) (h : EE cl X a ex) (hg : Gl X "range" := by rfl) (hs : starEach [a] X.env = [(false, eval a X.env)] := by rfl) : EI cl X tg (.Call (.Name "range" p) [a] [] pos) (xRng1 ex) := ei_range1 hm h hg hs
theorem ei_rng2 {a a2 : Expr} {ex2 : En → Ou R} {p : Pos} (hm : X.mg "range" = none) (h : EE cl X a ex) (h2 : EE cl X a2 ex2) (hg : Gl X "range" := by rfl) (hs : starEach [a, a2] X.env = [(false, eval a X.env), (false, eval a2 X.env)] := by rfl) (hs2 : starEach [a2] X.env = [(false, eval a2 X.env)] := by rfl) :
    EI cl X tg (.Call (.Name "range" p) [a, a2] [] pos) (xRng2 ex ex2) := ei_range2 hm h h2 hg hs hs2
end
/-! ### calls with keywords; no defaults -/
def pick {α : Type} (is : List Nat) (l : List α) : List α := is.filterMap fun i => l[i]?
theorem pick_cons {α : Type} (i : Nat) (is : List Nat) (l : List α) : pick (i :: is) l = (match l[i]? with
  | some a => a :: pick is l
  | none => pick is l) := by
  unfold pick
  rw [List.filterMap_cons]
  cases l[i]? <;> rfl
theorem Vals.at {xs : List V} {us : List Value} (h : Vals xs us) (i : Nat) : (xs[i]? = none ∧ us[i]? = none) ∨ ∃ x u, xs[i]? = some x ∧ us[i]? = some u ∧ RelV x u := by
  induction h generalizing i with
  | nil => exact .inl ⟨by simp, by simp⟩
  | cons r t ih =>
    cases i with
    | zero => exact .inr ⟨_, _, rfl, rfl, r⟩
    | succ i => simpa using ih i
theorem Vals.pick {xs : List V} {us : List Value} (h : Vals xs us) : ∀ is : List Nat, Vals (pick is xs) (pick is us)
  | [] => .nil
  | i :: is => by
    rw [pick_cons, pick_cons]
    rcases Vals.at h i with ⟨a, b⟩ | ⟨x, u, a, b, r⟩
    · rw [a, b]; exact Vals.pick h is
    · rw [a, b]; exact .cons r (Vals.pick h is)
theorem RelA.at {K : PySem.W.Frag} {cl : Str → Option Addr} {F : Hp} {σ : L2.St} {xs : List V} {as : List Ar} (h : RelA K cl F σ xs as) (i : Nat) : (xs[i]? = none ∧ as[i]? = none) ∨ ∃ x a, xs[i]? = some x ∧ as[i]? = some a ∧ RelA K cl F σ [x] [a] := by
  induction h generalizing i with
  | nil => exact .inl ⟨by simp, by simp⟩
  | inl r t ih =>
    cases i with
    | zero => exact .inr ⟨_, _, rfl, rfl, .inl r .nil⟩
    | succ i => simpa using ih i
  | inr r t ih =>
    cases i with
    | zero => exact .inr ⟨_, _, rfl, rfl, .inr r .nil⟩
    | succ i => simpa using ih i
theorem RelA.pick {K : PySem.W.Frag} {cl : Str → Option Addr} {F : Hp} {σ : L2.St} {xs : List V} {as : List Ar} (h : RelA K cl F σ xs as) : ∀ is : List Nat, RelA K cl F σ (pick is xs) (pick is as)
  | [] => .nil
  | i :: is => by
    rw [pick_cons, pick_cons]
    rcases RelA.at h i with ⟨a, b⟩ | ⟨x, u, a, b, r⟩
    · rw [a, b]; exact RelA.pick h is
    · rw [a, b]; exact r.app (RelA.pick h is)
/-- how n positional values and the keywords ks are bound -/
def KwB (K : PySem.W.Frag) (fd : FuncData) (ps : List Str) (n : Nat) (ks : List Str) (is : List Nat) : Prop :=
  ∀ (s : Shared) (us ws : List Value), K.In s.heap → us.length = n → ws.length = ks.length → BindsTo s fd ⟨us, ks.zip ws⟩ (ps.zip (pick is (us ++ ws)))
def xCallK (m : Fm) (is : List Nat) (a b : En → Ou (List Ar)) : En → Ou R := fun ρ => (a ρ).bn fun as ρ1 => (b ρ1).bn fun bs ρ2 => calM m (pick is (as ++ bs)) ρ2
def tCallKw (n m : Nat) (is : List Nat) (sp : Sp) (E : L2.St → XK) (t tk : TA) : TE := fun σ H Q => t σ H fun vs H1 => tk σ H1 fun zs H2 => vs.length = n ∧ zs.length = m ∧ sp (pick is (vs ++ zs)) H2 Q (E σ)
section
variable {X : Cx} {CX : CXT} {k n : Nat} {f : Addr} {fd : FuncData} {ps ks : List Str} {is : List Nat} {sp : Sp} {E : L2.St → XK} {x : Str} {p pos : Pos} {e : Expr} {es : List Expr} {kws : List Keyword} {t tk : TA}
theorem run_fnKw {pins : List (Addr × Obj)} {σ : L2.St} {H : Hp} {s : Shared} {Q : VK} {us ws : List Value} {vs zs : List V} (F : FnG X.prog X.w X.K X.mg X.base CX k f fd ps sp) (hr : Rm k X.A) (hb : KwB X.K fd ps n ks is) (hx : PassesAt CX X σ (E σ))
    (I : Inv X pins σ H s) (r : Vals vs us) (rz : Vals zs ws) (l1 : vs.length = n) (l2 : zs.length = ks.length) (h : sp (pick is (vs ++ zs)) H Q (E σ)) : wpAny (model X.prog X.w) X.A (call (.ref f) us (ks.zip ws)) (EP X pins σ Q) X.xe s := by
  refine wpAny_call (codeAny_mono (F.run X.A X.stack s H ⟨us, ks.zip ws⟩ (pick is (us ++ ws)) (pick is (vs ++ zs)) Q (E σ) hr I.env0 (hb s us ws I.kIn (r.length.symm.trans l1) (rz.length.symm.trans l2)) (Vals.pick (r.append rz) is) h) fun r s' hq => ?_)
  cases r with
  | error e => exact hx pins H s e s' I hq
  | ok fl =>
    cases fl with
    | ret u => exact I.after hq
    | _ => exact False.elim hq
theorem pe_callKw (F : FnG X.prog X.w X.K X.mg X.base CX k f fd ps sp) (hr : Rm k X.A) (hg : Gl X x) (hm : X.mg x = some (.ref f)) (hk : PySem.W.keepIn X.K (.ref f) = true) (hb : KwB X.K fd ps n ks is) (hx : ∀ σ, PassesAt CX X σ (E σ))
    (ha : PA X (e :: es) t) (hkw : PK X kws tk) (hall : (backToKw pos (keywordEach kws X.env)).all (·.1.isSome) = true := by rfl) (hks : (backToKw pos (keywordEach kws X.env)).filterMap (·.1) = ks := by rfl)
    (hdb : (x == ("__debug__" : Str)) = false := by decide) (he : starEach (e :: es) X.env = (false, eval e X.env) :: starEach es X.env := by rfl)
    (hpl : ((backTo pos (starEach (e :: es) X.env)).any (·.1) || (backToKw pos (keywordEach kws X.env)).any (·.1.isNone)) = false := by rfl) :
    PE X (.Call (.Name x p) (e :: es) kws pos) (tCallKw n ks.length is sp E t tk) := by
  refine ⟨fun pins s σ H Q I h => ?_⟩
  refine wpAny_Call_Name_kw (ld_glob I hg hm ?_ hdb)
  refine PySem.W.callWith_KW (h₀ := X.base) I.ok.mod.kin hk hall (thn (ha.run pos pins s σ H _ I h) fun us s1 ⟨vs, H1, I1, r, q⟩ => ?_) hpl he
  refine thn (hkw.run pos pins s1 σ H1 _ I1 q) fun ws s2 ⟨zs, H2, I2, rz, l1, l2, q2⟩ => ⟨I2.kIn, ?_⟩
  rw [hks]
  exact run_fnKw F hr hb (hx σ) I2 r rz l1 l2 q2
theorem pe_callKw0 (F : FnG X.prog X.w X.K X.mg X.base CX k f fd ps sp) (hr : Rm k X.A) (hg : Gl X x) (hm : X.mg x = some (.ref f)) (hk : PySem.W.keepIn X.K (.ref f) = true) (hb : KwB X.K fd ps 0 ks is) (hx : ∀ σ, PassesAt CX X σ (E σ))
    (hkw : PK X kws tk) (hall : (backToKw pos (keywordEach kws X.env)).all (·.1.isSome) = true := by rfl) (hks : (backToKw pos (keywordEach kws X.env)).filterMap (·.1) = ks := by rfl)
    (hdb : (x == ("__debug__" : Str)) = false := by decide)
    (hpl : ((backTo pos (starEach [] X.env)).any (·.1) || (backToKw pos (keywordEach kws X.env)).any (·.1.isNone)) = false := by rfl) :
    PE X (.Call (.Name x p) [] kws pos) (tCallKw 0 ks.length is sp E tNil tk) := by
  refine ⟨fun pins s σ H Q I h => ?_⟩
  refine wpAny_Call_Name_kw (ld_glob I hg hm ?_ hdb)
  refine PySem.W.callWith_KW0 (h₀ := X.base) I.ok.mod.kin hk hall ?_ hpl
  refine thn (hkw.run pos pins s σ H _ I h) fun ws s2 ⟨zs, H2, I2, rz, l1, l2, q2⟩ => ⟨I2.kIn, ?_⟩
  rw [hks]
  exact run_fnKw (us := []) (vs := []) F hr hb (hx σ) I2 .nil rz rfl l2 q2
end
def EKw (cl : Str → Option Addr) (X : Cx) (kws : List Keyword) (ex : En → Ou (List Ar)) : Prop := ∀ W, Takes X W → ∃ t, PK X kws t ∧ EvL X.K cl W t ex
section
variable {cl : Str → Option Addr} {X : Cx} {e : Expr} {es : List Expr} {ea : En → Ou R} {er ek : En → Ou (List Ar)} {pos p kpos : Pos} {x : Str} {nm : Option Str} {kws : List Keyword} {k j n u v : Nat} {m : Fm} {f : Addr} {fd : FuncData} {ps ks : List Str} {is : List Nat}
theorem ekw_nil : EKw cl X [] gNil := fun W tk => ⟨_, pk_nil, ev_gNil⟩
theorem ekw_val (ha : EE cl X e ea) (hr : EKw cl X kws ek) : EKw cl X (⟨nm, e, kpos⟩ :: kws) (gVal ea ek) := fun W tk =>
  let ⟨_, p, v⟩ := ha W tk; let ⟨_, p1, v1⟩ := hr W tk; ⟨_, pk_cons p p1, ev_gVal v v1⟩
theorem ev_callK {K : PySem.W.Frag} {W : WX} {t tk : TA} {a b : En → Ou (List Ar)} (hm : m.Ok) (ha : EvL K cl W t a) (hb : EvL K cl W tk b) (hu : gLen u a) (hv : gLen v b) (hn : ∀ as : List Ar, as.length = u + v → (pick is as).length = n) :
    EvE K cl W (tCallKw u v is (spM K cl n m) (WE W) t tk) (xCallK m is a b) := by
  intro F σ H ρ Q S q
  refine ha F σ H ρ _ S ?_
  unfold xCallK at q
  cases e : a ρ with
  | st => rw [e] at q; exact q
  | er y ρ' => rw [e] at q; exact q
  | ok as ρ1 =>
    rw [e, Ou.bn_ok] at q
    intro xs F1 H1 S1 s1 r
    refine hb F1 σ H1 ρ1 _ S1 ?_
    cases e2 : b ρ1 with
    | st => simp only [e2, Ou.bn_st] at q; exact q
    | er y ρ' => simp only [e2, Ou.bn_er] at q; exact fun c d F' H' S' s' er => q c d F' H' S' (s1.trans s') er
    | ok bs ρ2 =>
      simp only [e2, Ou.bn_ok] at q
      intro ys F2 H2 S2 s2 r2
      have l1 := hu ρ as ρ1 e
      have l2 := hv ρ1 bs ρ2 e2
      refine ⟨by rw [r.length, l1], by rw [r2.length, l2], ?_⟩
      exact cal_run hm S2 (RelA.pick ((r.mono s2.mono).app r2) is) (hn _ (by rw [List.length_append, l1, l2])) (PstE.from (s1.trans s2) q)
theorem pick_len {α : Type} {is : List Nat} {l : List α} {N : Nat} (hl : l.length = N) (h : ∀ i ∈ is, i < N) : (pick is l).length = is.length := by
  induction is with
  | nil => rfl
  | cons i is ih =>
    have hi : i < l.length := by rw [hl]; exact h i List.mem_cons_self
    have e : l[i]? = some l[i] := by simp [hi]
    rw [pick_cons, e]
    simp [ih fun j hj => h j (List.mem_cons_of_mem _ hj)]
/-- f(e, .., k = v, ..) -/
theorem ee_callK (G : Cal X.prog X.w X.K X.mg X.base cl x k n m f fd ps) (hr : Rm j X.A) (ha : EL cl X (e :: es) er) (hkw : EKw cl X kws ek) (hu : gLen u er) (hv : gLen v ek) (hb : KwB X.K fd ps u ks is) (hn : is.length = n := by rfl) (hi : ∀ i ∈ is, i < u + v := by decide) (hvk : ks.length = v := by rfl) (hj : k ≤ j := by decide)
    (hg : Gl X x := by rfl) (hall : (backToKw pos (keywordEach kws X.env)).all (·.1.isSome) = true := by rfl) (hks : (backToKw pos (keywordEach kws X.env)).filterMap (·.1) = ks := by rfl)
    (hdb : (x == ("__debug__" : Str)) = false := by decide) (he : starEach (e :: es) X.env = (false, eval e X.env) :: starEach es X.env := by rfl)
    (hpl : ((backTo pos (starEach (e :: es) X.env)).any (·.1) || (backToKw pos (keywordEach kws X.env)).any (·.1.isNone)) = false := by rfl) : EE cl X (.Call (.Name x p) (e :: es) kws pos) (xCallK m is er ek) := fun W tk => by
  obtain ⟨t, pp, vv⟩ := ha W tk
  obtain ⟨t2, pp2, vv2⟩ := hkw W tk
  subst hvk
  exact ⟨_, pe_callKw (E := WE W) G.fn (hr.mono hj) hg G.mg G.kp hb (fun σ => passAt tk σ) pp pp2 hall hks hdb he hpl, ev_callK G.ok vv vv2 hu hv fun as hl => by rw [pick_len hl hi, hn]⟩
/-- f(k = v, ..) -/
theorem ee_callK0 (G : Cal X.prog X.w X.K X.mg X.base cl x k n m f fd ps) (hr : Rm j X.A) (hkw : EKw cl X kws ek) (hv : gLen v ek) (hb : KwB X.K fd ps 0 ks is) (hn : is.length = n := by rfl) (hi : ∀ i ∈ is, i < 0 + v := by decide) (hvk : ks.length = v := by rfl) (hj : k ≤ j := by decide)
    (hg : Gl X x := by rfl) (hall : (backToKw pos (keywordEach kws X.env)).all (·.1.isSome) = true := by rfl) (hks : (backToKw pos (keywordEach kws X.env)).filterMap (·.1) = ks := by rfl)
    (hdb : (x == ("__debug__" : Str)) = false := by decide)
    (hpl : ((backTo pos (starEach [] X.env)).any (·.1) || (backToKw pos (keywordEach kws X.env)).any (·.1.isNone)) = false := by rfl) : EE cl X (.Call (.Name x p) [] kws pos) (xCallK m is gNil ek) := fun W tk => by
  obtain ⟨t2, pp2, vv2⟩ := hkw W tk
  subst hvk
  exact ⟨_, pe_callKw0 (E := WE W) G.fn (hr.mono hj) hg G.mg G.kp hb (fun σ => passAt tk σ) pp2 hall hks hdb hpl, ev_callK G.ok ev_gNil vv2 gLen_nil hv fun as hl => by rw [pick_len hl hi, hn]⟩
end
/-! ### constants of the module -/
section
variable {cl : Str → Option Addr} {X : Cx} {x : Str} {pos : Pos}
theorem ee_gI {i : Int} (hm : ∃ t, X.mg x = some (.int i t)) (hg : Gl X x := by rfl) (hd : (x == ("__debug__" : Str)) = false := by decide) : EE cl X (.Name x pos) (xC (.int i)) := by
  obtain ⟨t, e⟩ := hm
  exact ee_glob (v := .int i) e ⟨t, rfl⟩ (fun _ => .int i) hg hd
theorem ee_gS {i : Str} (hm : ∃ t, X.mg x = some (.str i t)) (hg : Gl X x := by rfl) (hd : (x == ("__debug__" : Str)) = false := by decide) : EE cl X (.Name x pos) (xC (.str i)) := by
  obtain ⟨t, e⟩ := hm
  exact ee_glob (v := .str i) e ⟨t, rfl⟩ (fun _ => .str i) hg hd
end
/-! ### binding facts of a def -/
section
variable {K : PySem.W.Frag} {x qual : Str} {st : Stmt} {f : Addr} {fd : FuncData} {ps ks : List Str} {n : Nat} {is : List Nat}
theorem kwB_of (F : Fun K x qual st f fd) (h : ∀ (kV doc pm : Value) (an : Option Addr) (cdv ct : Value) (us ws : List Value), us.length = n → ws.length = ks.length →
    bindArgs (PySem.W.fnOf x qual (defArgs st) (defBody st) (defScope st) .none kV doc pm an cdv ct) ⟨us, ks.zip ws⟩ = pure (ps.zip (pick is (us ++ ws)))) : KwB K fd ps n ks is := by
  obtain ⟨oc, od, kV, doc, pm, an, cdv, ct, osl, rfl, lk, hcd⟩ := F.ex
  exact fun s us ws _ l1 l2 => .of_eq (h kV doc pm an cdv ct us ws l1 l2)
end
end Dm
end TxtDm17

section TxtDm18
set_option Elab.async false
set_option linter.all false
set_option maxRecDepth 100000
/-! Dm18: the law's def, and the end. -/
namespace Dm
open PySem PySem.Spec PyProof.Rows L2

theorem FnG.imp {P : Program} {w : World} {K : PySem.W.Frag} {mg : Str → Option Value} {base : Heap} {CX : CXT} {k : Nat} {f : Addr} {fd : FuncData} {ps : List Str} {sp sp' : Sp} (F : FnG P w K mg base CX k f fd ps sp)
    (h : ∀ vs H Q E, sp' vs H Q E → sp vs H Q E) : FnG P w K mg base CX k f fd ps sp' :=
  ⟨fun vs H Q E q => F.len vs H Q E (h _ _ _ _ q), fun A outer s H args us vs Q E hr he hb hv hs => F.run A outer s H args us vs Q E hr he hb hv (h _ _ _ _ hs)⟩
/-- what the law's def promises: True -/
def spL (K : PySem.W.Frag) : Sp := fun vs H Q _ => ∃ (a : Addr) (ns : List Int), vs = [.ref a] ∧ SqL K H a (ns.map V.int) ∧ ns.length ≤ 63 ∧ ∀ H', Q (.bl true) H'
def Keeps (m : Fm) : Prop := ∀ ns : List Int, ns.length ≤ 63 → ∃ ρ', m [some (.v (.scr ns))] = .ok (.v (.bl true)) ρ'
theorem sub_refl' {H : Hp} : Sub H H := fun _ _ h => .inl h
theorem FnG.law {P : Program} {w : World} {K : PySem.W.Frag} {mg : Str → Option Value} {base : Heap} {CX : CXT} {k : Nat} {f : Addr} {fd : FuncData} {ps : List Str} {cl : Str → Option Addr} {m : Fm} (F : FnG P w K mg base CX k f fd ps (spM K cl 1 m)) (h : Keeps m) : FnG P w K mg base CX k f fd ps (spL K) := by
  refine F.imp fun vs H Q E ⟨a, ns, e, hs, hl, q⟩ => ?_
  subst e
  obtain ⟨ρ', e⟩ := h ns hl
  refine ⟨rfl, H, [some (.v (.scr ns))], ⟨sub_refl', rfl, fun i d hi => ?_, fun i c hi hc => ?_, fun i j ci cj p hi hj hci => ?_⟩, ?_⟩
  · cases i with
    | zero => simp at hi; subst hi; exact ⟨_, rfl, .scr hs⟩
    | succ i => simp at hi
  · cases i with
    | zero => simp at hi; subst hi; cases hc
    | succ i => simp at hi
  · cases i with
    | zero => simp at hi; subst hi; cases hci
    | succ i => simp at hi
  · rw [e]
    intro x F' H' _ _ r
    cases r
    exact q H'
/-- the law's call -/
theorem law_callG {P : Program} {w : World} {K : PySem.W.Frag} {mg mb : Str → Option Value} {CX : CXT} {k : Nat} {fa a : Addr} {fd : FuncData} {x : Str} {s₁ : Shared} {vs : List Value} {ns : List Int}
    (KX : K.In s₁.heap) (hns : s₁.heap.Ns mainGlobals mg) (hb : s₁.heap.Ns builtinsNs mb) (hbb : ∀ x : Str, x ≠ "__name__" → mb x = bootBuiltins x) (hlim : s₁.heap.NoLimit) (hg : s₁.gens = #[])
    (ha : s₁.heap.get? a = some { cls := .type "list", data := .seq vs.toArray }) (hi : IntsAre vs ns) (hl : ns.length ≤ 63) (hr : Room k callerA)
    (F : ∀ base : Heap, K.In base → base.Ns mainGlobals mg → FnG P w K mg base CX k fa fd [x] (spL K)) (hbind : ∀ (s : Shared) (u : Value), BindsTo s fd ⟨[u], []⟩ [(x, u)])
    (hCX : ∀ H e s', CX [] H s₁ (fun _ _ _ => False) e s' → False) :
    codeAny (model P w) callerA (.call (.ref fa) ⟨[.ref a], []⟩) (fun r s' => r = .ok (.ret (.bool true)) ∧ OldK s₁.heap s'.heap ∧ s'.os = s₁.os ∧ AllBare s'.gens) s₁ := by
  have rv := vals_ints hi
  have lenV := hi.length
  have hz : ns.length ≤ sizeLine := by rw [sizeLine_eq]; omega
  -- over an abstract heap that knows the script at most
  have core : ∀ H : Hp, Only H → SqL K H a (ns.map V.int) → HOk P w H s₁.heap → (∀ b, H b ≠ none → b = a) → (H a ≠ none → K.lookup a = none) →
      codeAny (model P w) callerA (.call (.ref fa) ⟨[.ref a], []⟩) (fun r s' => r = .ok (.ret (.bool true)) ∧ OldK s₁.heap s'.heap ∧ s'.os = s₁.os ∧ AllBare s'.gens) s₁ := by
    intro H hO hS hok hA hK
    have isA : ∀ {b : Addr} {u : HO}, H b = some u → b = a := fun q => hA _ (by rw [q]; simp)
    have nsK : ∀ {b : Addr} {m : Str → Option Value}, s₁.heap.Ns b m → (hidT s₁.heap H).Ns b m := fun {b m} ⟨o, es, ep, e, d, r⟩ => by
      refine ⟨o, es, ep, hidT_get e ?_, d, r⟩
      cases q : H b with
      | none => rfl
      | some u =>
        have := isA q; subst this
        rw [ha] at e; cases e
        exact nomatch d
    have hKb : K.In (hidT s₁.heap H) := fun b o e => by
      refine hidT_get (KX b o e) ?_
      cases q : H b with
      | none => rfl
      | some u =>
        have := isA q; subst this
        rw [hK (by rw [q]; simp)] at e; cases e
    have hM : Mod K mg (hidT s₁.heap H) := ⟨hKb, nsK hns, ⟨mb, nsK hb, hbb⟩, let ⟨mc, h1, h2⟩ := hlim; ⟨mc, nsK h1, h2⟩⟩
    have e0 : Env0 P w K mg (hidT s₁.heap H) callerA [] s₁ H := ⟨rfl, hM, fun b o e => of_hidT e, Nat.le_of_eq (hidT_size _ _), trivial, fun b hb => absurd (show b ∈ ([] : List Addr) from hb) (by simp), hok, .of_eq hg⟩
    refine codeAny_mono ((F _ hKb (nsK hns)).run callerA [] s₁ H ⟨[.ref a], []⟩ [.ref a] [.ref a] (fun v _ => v = .bl true) (fun _ _ _ => False) ⟨hr, rfl⟩ e0 (hbind s₁ (.ref a)) (.cons rfl .nil) ⟨a, ns, rfl, hS, hl, fun _ => rfl⟩) fun r s' h => ?_
    cases r with
    | error e => exact (hCX H e s' h).elim
    | ok fl =>
      cases fl with
      | ret u =>
        obtain ⟨v, H', os, bare, un, hok', r', q⟩ := h
        have q' : v = .bl true := q
        subst q'
        obtain rfl : u = Value.bool true := r'
        refine ⟨rfl, OldK.of_keep fun b o e => ?_, os, bare⟩
        cases q : H b with
        | none => exact un.keep b o e q (by intro z; exact absurd (show b ∈ ([] : List Addr) from z) (by simp)) (by simp)
        | some u =>
          rcases hO b with z | ⟨ob, xs, z⟩
          · rw [q] at z; cases z
          · obtain ⟨e1, _⟩ := hok b _ z
            obtain ⟨e2, _⟩ := hok' b _ (un.frzs b ob _ z)
            rw [e] at e1; cases e1
            exact e2
      | _ => exact False.elim h
  cases hk : K.lookup a with
  | some o =>
    have e := KX a o hk
    rw [ha] at e
    cases e
    exact core (fun _ => none) (fun _ => .inl rfl) (.inr ⟨_, vs.toArray, _, hk, rfl, rfl, rfl, by rw [List.size_toArray, lenV]; exact hz, by simpa using rv⟩) (fun b u z => nomatch (show (none : Option HO) = some u from z)) (fun b z => absurd rfl z) fun z => absurd rfl z
  | none =>
    refine core (fun b => if b = a then some (.frz { cls := .type "list", data := .seq vs.toArray } (.lst (ns.map V.int))) else none) (fun b => ?_) (.inl (.inr ⟨{ cls := .type "list", data := .seq vs.toArray }, if_pos rfl⟩)) (fun b u z => ?_) (fun b z => ?_) fun _ => hk
    · by_cases hb : b = a
      · exact .inr ⟨_, _, if_pos hb⟩
      · exact .inl (if_neg hb)
    · by_cases hb : b = a
      · have z' := (if_pos hb).symm.trans z
        cases z'
        subst hb
        exact ⟨ha, by rw [List.length_map]; exact hz, vs, _, rv, ha⟩
      · exact nomatch ((if_neg hb).symm.trans z)
    · by_cases hb : b = a
      · exact hb
      · exact absurd (if_neg hb) z
theorem walk_ofG {l : PySem.W.OpenLaw} {k : Nat} {q : Program} {loose : List Str} {XP : (Str → Option Value) → Heap → Prop} {YP : World → Heap → Prop} {d : DefRec} {K : Params → PySem.W.Frag} {x : Str}
    (hn : l.most = some 63) (hdf : d.params.defaults = []) (hr : Room k callerA)
    (hY : ∀ (w : World) (h : Heap), YP w h → (K w.params).In h)
    (F : ∀ (w : World) (mg : Str → Option Value) (fa : Addr) (h : Heap), (K w.params).In h → h.Ns mainGlobals mg → mg d.name = some (.ref fa) →
      ∃ fd : FuncData, (∀ (s : Shared) (u : Value), BindsTo s fd ⟨[u], []⟩ [(x, u)]) ∧
        ∀ base : Heap, (K w.params).In base → base.Ns mainGlobals mg → FnG l.prog w (K w.params) mg base (L2.CX l.prog w) k fa fd [x] (spL (K w.params))) :
    PySem.W.WalkO q loose XP YP l.row.toRowW d [] (fun f vs => PySem.call f vs) := by
  refine Att.attach_call hn hdf fun w s₀ s₁ mg mb fa o pm cd doc a vs ns G Y ho hd hcd hmg hobj hints hlen hg => ?_
  have KX := hY w _ Y
  obtain ⟨fd, hb, hF⟩ := F w mg fa _ KX G.T.g hmg
  exact law_callG KX G.T.g G.T.b G.T.builtins G.T.nolimit hg hobj hints hlen hr hF hb fun H e s' ⟨_, _, _, _, _, _, _, _, _, _, _, _, z⟩ => z
end Dm
end TxtDm18

section TxtDm19
set_option Elab.async false
set_option linter.all false
set_option maxRecDepth 100000
/-! Dm19: a new thing of its own as the first argument, which the def may change. -/
namespace Dm
open PySem PySem.Spec PyProof.Rows L2

def calT (m : Fm) (c : C) (as : List Ar) (ρ : En) : Ou R := match calM m (.inr ρ.length :: as) (ρ ++ [some c]) with
  | .ok r ρ' => .ok r (ρ'.take ρ.length)
  | .er e ρ' => .er e (ρ'.take ρ.length)
  | .st => .st
def xCalT (m : Fm) (e : En → Ou R) (a : En → Ou (List Ar)) : En → Ou R := fun ρ => (e ρ).bn fun r ρ1 => match r with
  | .o c => (a ρ1).bn fun as ρ2 => calT m c as ρ2
  | _ => .st
section
variable {K : PySem.W.Frag} {cl : Str → Option Addr} {F F' F1 F2 H H' H1 H2 H0 F0 : Hp} {σ σ1 σ2 σ0 : L2.St} {ρ ρ0 ρ1 ρ2 ρb : En} {pn : Nat → Bool} {v x : V} {d : D} {W : WX}
theorem app1 {α : Type} {l : List (Option α)} {a : Option α} {i : Nat} {b : α} (h : (l ++ [a])[i]? = some (some b)) : (i < l.length ∧ l[i]? = some (some b)) ∨ (i = l.length ∧ a = some b) := by
  by_cases hi : i < l.length
  · rw [List.getElem?_append_left hi] at h; exact .inl ⟨hi, h⟩
  · rw [List.getElem?_append_right (by omega)] at h
    have : i - l.length = 0 := by
      by_cases e : i - l.length = 0
      · exact e
      · rw [List.getElem?_eq_none (by simp; omega)] at h; cases h
    rw [this] at h
    simp at h
    exact .inr ⟨by omega, h⟩
theorem app0 {α : Type} {l : List (Option α)} {a : Option α} {i : Nat} (h : i < l.length) : (l ++ [a])[i]? = l[i]? := List.getElem?_append_left h
theorem app_last {α : Type} {l : List (Option α)} {a : Option α} {n : Nat} (h : n = l.length) : (l ++ [a])[n]? = some a := by
  subst h; simp
theorem ownS_plus {p q : Addr} {c : C} (hl : ρ.length = σ.length) (h : OwnS (σ ++ [some (.ref p)]) (ρ ++ [some c]) q) : OwnS σ ρ q ∨ q = p := by
  obtain ⟨i, c', h1, h2, h3⟩ := h
  rcases app1 h1 with ⟨a, b⟩ | ⟨a, b⟩
  · rw [app0 (by omega)] at h3; exact .inl ⟨i, c', b, h2, h3⟩
  · rw [app_last (by omega)] at h3; cases h3; exact .inr rfl
theorem Sta.plus {p : Addr} {c : C} {o : HO} (S : Sta K cl F σ H ρ) (hc : c.own = true) (hf : F p = none) (hh : H p = some o) (ha : OwnAt K cl F o c) (hn : ¬ OwnS σ ρ p) : Sta K cl F (σ ++ [some (.ref p)]) H (ρ ++ [some c]) := by
  have hl := S.len
  refine ⟨S.sub, by simp [hl], fun i d h => ?_, fun i c' h hc' => ?_, fun i j ci cj q h1 h2 h3 h4 h5 h6 => ?_⟩
  · rcases app1 h with ⟨a, b⟩ | ⟨a, b⟩
    · rw [app0 (by omega)]; exact S.val i d b
    · cases b; cases hc
  · rcases app1 h with ⟨a, b⟩ | ⟨a, b⟩
    · rw [app0 (by omega)]; exact S.own i c' b hc'
    · cases b; exact ⟨p, o, app_last (by omega), hf, hh, ha⟩
  · rcases app1 h1 with ⟨a, b⟩ | ⟨a, b⟩ <;> rcases app1 h2 with ⟨a', b'⟩ | ⟨a', b'⟩
    · rw [app0 (by omega)] at h5 h6; exact S.sep i j ci cj q b b' h3 h4 h5 h6
    · rw [app_last (by omega)] at h6; cases h6
      rw [app0 (by omega)] at h5
      exact (hn ⟨i, ci, b, h3, h5⟩).elim
    · rw [app_last (by omega)] at h5; cases h5
      rw [app0 (by omega)] at h6
      exact (hn ⟨j, cj, b', h4, h6⟩).elim
    · omega
theorem take_some {α : Type} {l : List (Option α)} {n i : Nat} {a : α} (h : (l.take n)[i]? = some (some a)) : i < n ∧ l[i]? = some (some a) := by
  rw [List.getElem?_take] at h
  split at h
  · rename_i hi; exact ⟨hi, h⟩
  · cases h
theorem Sta.minus {p : Addr} {n : Nat} (S : Sta K cl F (σ ++ [some (.ref p)]) H ρ) (hn : n = σ.length) : Sta K cl F σ H (ρ.take n) := by
  have hl := S.len
  simp at hl
  refine ⟨S.sub, by simp [hl, hn], fun i d h => ?_, fun i c' h hc' => ?_, fun i j ci cj q h1 h2 h3 h4 h5 h6 => ?_⟩
  · obtain ⟨a, b⟩ := take_some h
    rw [← app0 (l := σ) (a := some (.ref p)) (by omega)]; exact S.val i d b
  · obtain ⟨a, b⟩ := take_some h
    rw [← app0 (l := σ) (a := some (.ref p)) (by omega)]; exact S.own i c' b hc'
  · obtain ⟨a, b⟩ := take_some h1
    obtain ⟨a', b'⟩ := take_some h2
    rw [← app0 (l := σ) (a := some (.ref p)) (by omega)] at h5 h6
    exact S.sep i j ci cj q b b' h3 h4 h5 h6
theorem ownS_minus {p q : Addr} {n : Nat} (hn : n = σ.length) (h : OwnS σ (ρ.take n) q) : OwnS (σ ++ [some (.ref p)]) ρ q := by
  obtain ⟨i, c', h1, h2, h3⟩ := h
  obtain ⟨a, b⟩ := take_some h1
  exact ⟨i, c', b, h2, by rw [app0 (by omega)]; exact h3⟩
/-- from where the thing came to behind the call -/
theorem Stp.temp {p : Addr} {c : C} {n : Nat} (st : Stp pn σ0 ρ0 F0 H0 σ ρ F H) (s : Stp (fun _ => true) (σ ++ [some (.ref p)]) (ρ ++ [some c]) F H (σ ++ [some (.ref p)]) ρ1 F1 H1) (hl : ρ.length = σ.length) (hn : n = σ.length) (hs : OwnS σ0 ρ0 p ∨ H0 p = none) :
    Stp pn σ0 ρ0 F0 H0 σ (ρ1.take n) F1 H1 := by
  have nown : ∀ q o, H0 q = some o → ¬ OwnS σ0 ρ0 q → ¬ OwnS (σ ++ [some (.ref p)]) (ρ ++ [some c]) q := fun q o h n z => by
    rcases ownS_plus hl z with y | y
    · rcases st.own q y with u | u
      · exact n u
      · rw [h] at u; cases u
    · subst y
      rcases hs with u | u
      · exact n u
      · rw [h] at u; cases u
  refine ⟨fun a o h => s.mono a o (st.mono a o h), fun q o h n => s.keep q o (st.keep q o h n) (nown q o h n), fun q o h n e => (st.free q o h n e).elim (fun z => s.free q o (st.keep q o h n) (nown q o h n) z) .inr, fun q z => ?_, st.pin, fun q o h => ?_, st.len⟩
  · rcases s.own q (ownS_minus hn z) with y | y
    · rcases ownS_plus hl y with u | u
      · exact st.own q u
      · subst u; exact hs
    · exact .inr (st.non0 y)
  · obtain ⟨o', h'⟩ := st.thr q o h
    exact s.thr q o' h'
theorem RelA.plus {p : Addr} {xs : List V} {as : List Ar} (r : RelA K cl F σ xs as) : RelA K cl F (σ ++ [some (.ref p)]) xs as := by
  induction r with
  | nil => exact .nil
  | inl h r ih => exact .inl h ih
  | @inr x i xs as h r ih =>
    refine .inr ?_ ih
    have hi := (List.getElem?_eq_some_iff.mp h).1
    rw [app0 hi]; exact h
theorem calM_ok {m : Fm} (hm : m.Ok) {as : List Ar} {r : R} {ρ' : En} (h : calM m as ρ = .ok r ρ') : ∀ i, r ≠ .s i := by
  unfold calM at h
  split at h
  · split at h
    · split at h
      · rename_i e
        split at h
        · cases h; exact hm _ _ _ e
        · cases h
      · split at h <;> cases h
      · cases h
    · cases h
  · cases h
theorem ev_calT {m : Fm} {n : Nat} {te : TE} {t : TA} {ex : En → Ou R} {a : En → Ou (List Ar)} (hm : m.Ok) (he : EvE K cl W te ex) (ha : EvL K cl W t a) (hn : ∀ ρ as ρ', a ρ = .ok as ρ' → as.length + 1 = n) : EvE K cl W (tCallSD (spM K cl n m) [] (WE W) (tCons te t)) (xCalT m ex a) := by
  intro F σ H ρ Q S q
  refine he.then (P := PstE K cl W Q σ ρ F H) S q (fun z => z) (fun _ _ z => z) fun r ρ1 q x F1 H1 S1 s1 rel => ?_
  cases r with
  | v d => exact q.elim
  | s i => exact q.elim
  | o c =>
    refine ha F1 σ H1 ρ1 _ S1 ?_
    cases e : a ρ1 with
    | st => simp only [e, Ou.bn_st] at q; exact q
    | er y ρ' => simp only [e, Ou.bn_er] at q; exact fun c d F' H' S' s' er => q c d F' H' S' (s1.trans s') er
    | ok as ρ2 =>
      simp only [e, Ou.bn_ok] at q
      intro xs F2 H2 S2 s2 ra
      have rel2 := rel.step s2
      obtain ⟨p, o, rfl, hc, hf, hh, hat, hnn, hs⟩ := rel2
      have Sp := S2.plus hc hf hh hat hnn
      have hl : ρ2.length = σ.length := S2.len
      show spM K cl n m ((V.ref p :: xs) ++ []) H2 Q (WE W σ)
      rw [List.append_nil]
      refine cal_run (W := fun c d _ H' => W c d σ H') (as := .inr ρ2.length :: as) hm Sp (.inr (app_last hl) ra.plus) (by have := hn _ _ _ e; simpa using this) ?_
      unfold calT at q
      have s12 := s1.trans s2
      cases e2 : calM m (.inr ρ2.length :: as) (ρ2 ++ [some c]) with
      | st => rw [e2] at q; exact q
      | er y ρ' =>
        rw [e2] at q
        exact fun c d F' H' S' s' er => q c d F' H' (S'.minus hl) (s12.temp s' hl hl hs) er
      | ok r ρ' =>
        rw [e2] at q
        intro x F' H' S' s' rr
        refine q x F' H' (S'.minus hl) (s12.temp s' hl hl hs) ?_
        cases r with
        | v d => exact rr
        | s i => exact absurd rfl (calM_ok hm e2 i)
        | o c' =>
          obtain ⟨p', o', ex', h1, h2, h3, h4, h5, h6⟩ := rr
          refine ⟨p', o', ex', h1, h2, h3, h4, fun z => h5 (ownS_minus hl z), ?_⟩
          rcases h6 with z | z
          · rcases ownS_plus hl z with y | y
            · exact s12.own _ y
            · subst y; exact hs
          · exact .inr (s12.non0 z)
end
section
variable {cl : Str → Option Addr} {X : Cx} {e : Expr} {es : List Expr} {ex : En → Ou R} {er : En → Ou (List Ar)} {pos p : Pos} {x : Str} {k j n : Nat} {m : Fm} {f : Addr} {fd : FuncData} {ps : List Str}
/-- f(e, ..), e a new thing of its own -/
theorem ee_calT (G : Cal X.prog X.w X.K X.mg X.base cl x k (n + 1) m f fd ps) (hr : Rm j X.A) (hx : EE cl X e ex) (ha : EL cl X es er) (hu : gLen n er) (hj : k ≤ j := by decide) (hg : Gl X x := by rfl)
    (hdb : (x == ("__debug__" : Str)) = false := by decide) (he : starEach (e :: es) X.env = (false, eval e X.env) :: starEach es X.env := by rfl) (hpl : (backTo pos (starEach es X.env)).any (·.1) = false := by rfl) : EE cl X (.Call (.Name x p) (e :: es) [] pos) (xCalT m ex er) := fun W tk => by
  obtain ⟨t, pp, v⟩ := hx W tk
  obtain ⟨t2, pp2, v2⟩ := ha W tk
  exact ⟨_, pe_callG (E := WE W) G.fn (hr.mono hj) hg G.mg G.kp G.b .nil (fun σ => passAt tk σ) (pa_cons pp pp2 he) hdb he hpl, ev_calT G.ok v v2 fun ρ as ρ' h => by rw [hu ρ as ρ' h]⟩
end
/-! ### in, as a test -/
theorem PT.or {X : Cx} {e : Expr} {t t' : TT} (h : PT X e t) (h' : PT X e t') : PT X e (fun σ H Q => t σ H Q ∨ t' σ H Q) :=
  ⟨fun pins s σ H Q I q => q.elim (fun q => h.run pins s σ H Q I q) fun q => h'.run pins s σ H Q I q⟩
section
variable {cl : Str → Option Addr} {X : Cx} {a b : Expr} {ea eb : En → Ou R} {pos : Pos} {k : Nat}
theorem et_in (hr : Room k X.A) (ha : EE cl X a ea) (hb : EE cl X b eb) (hm : behindInMarks .In b = false := by rfl) : ET cl X (.Compare a [.In] [b] pos) (tB' (xBin (inAD false) ea eb)) := fun W tk =>
  let ⟨ta, pa, va⟩ := ha W tk
  let ⟨tb, pb, vb⟩ := hb W tk
  ⟨_, PT.or (pt_cmpR (op_in_seq.or op_in_sign) pa pb hm) (pt_cmp (pc_din (hu_of hr) pa pb) hm), ev_tTest (ev_or (ev_bin (r := fun x y H Q => rIn X.K false x y H Q ∨ rSign false x y H Q) rs_in va vb) (ev_bin (r := rDIn false) rs_din va vb))⟩
theorem et_notIn (hr : Room k X.A) (ha : EE cl X a ea) (hb : EE cl X b eb) (hm : behindInMarks .NotIn b = false := by rfl) : ET cl X (.Compare a [.NotIn] [b] pos) (tB' (xBin (inAD true) ea eb)) := fun W tk =>
  let ⟨ta, pa, va⟩ := ha W tk
  let ⟨tb, pb, vb⟩ := hb W tk
  ⟨_, PT.or (pt_cmpR (op_notIn_seq.or op_notIn_sign) pa pb hm) (pt_cmp (pc_dnotin (hu_of hr) pa pb) hm), ev_tTest (ev_or (ev_bin (r := fun x y H Q => rIn X.K true x y H Q ∨ rSign true x y H Q) rs_in va vb) (ev_bin (r := rDIn true) rs_din va vb))⟩
end
/-! ### the built-in names -/
theorem bt_len : bootBuiltins "len" = some (.builtin "len") := by decide +kernel
theorem bt_isinstance : bootBuiltins "isinstance" = some (.builtin "isinstance") := by decide +kernel
theorem bt_all : bootBuiltins "all" = some (.builtin "all") := by decide +kernel
theorem bt_any : bootBuiltins "any" = some (.builtin "any") := by decide +kernel
theorem bt_sum : bootBuiltins "sum" = some (.builtin "sum") := by decide +kernel
theorem bt_sorted : bootBuiltins "sorted" = some (.builtin "sorted") := by decide +kernel
theorem bt_abs : bootBuiltins "abs" = some (.builtin "abs") := by decide +kernel
theorem bt_max : bootBuiltins "max" = some (.builtin "max") := by decide +kernel
theorem bt_min : bootBuiltins "min" = some (.builtin "min") := by decide +kernel
theorem bt_divmod : bootBuiltins "divmod" = some (.builtin "divmod") := by decide +kernel
theorem bt_repr : bootBuiltins "repr" = some (.builtin "repr") := by decide +kernel
theorem bt_tuple : bootBuiltins "tuple" = some (.type "tuple") := by decide +kernel
theorem bt_list : bootBuiltins "list" = some (.type "list") := by decide +kernel
theorem bt_int : bootBuiltins "int" = some (.type "int") := by decide +kernel
theorem bt_bool : bootBuiltins "bool" = some (.type "bool") := by decide +kernel
theorem bt_str : bootBuiltins "str" = some (.type "str") := by decide +kernel
theorem bt_dict : bootBuiltins "dict" = some (.type "dict") := by decide +kernel
theorem bt_set : bootBuiltins "set" = some (.type "set") := by decide +kernel
end Dm
end TxtDm19

section TxtDm20
set_option Elab.async false
set_option linter.all false
set_option maxRecDepth 100000
/-! Dm20: reckoning with the mirrors: what each combinator does, for simp; loops by what holds at each turn. -/
namespace Dm
open PySem PySem.Spec

@[simp] theorem sizeLine_num : sizeLine = 16777216 := sizeLine_eq
def rg (n : Nat) : List Nat := List.range n
@[simp] theorem rg_0 : rg 0 = [] := rfl
@[simp] theorem rg_1 : rg 1 = [0] := rfl
@[simp] theorem rg_2 : rg 2 = [0, 1] := rfl
@[simp] theorem rg_3 : rg 3 = [0, 1, 2] := rfl
@[simp] theorem rg_4 : rg 4 = [0, 1, 2, 3] := rfl
@[simp] theorem rg_5 : rg 5 = [0, 1, 2, 3, 4] := rfl
@[simp] theorem rg_6 : rg 6 = [0, 1, 2, 3, 4, 5] := rfl
@[simp] theorem rg_7 : rg 7 = [0, 1, 2, 3, 4, 5, 6] := rfl
@[simp] theorem rg_8 : rg 8 = [0, 1, 2, 3, 4, 5, 6, 7] := rfl
@[simp] theorem rg_9 : rg 9 = [0, 1, 2, 3, 4, 5, 6, 7, 8] := rfl
@[simp] theorem rg_10 : rg 10 = [0, 1, 2, 3, 4, 5, 6, 7, 8, 9] := rfl
@[simp] theorem rg_11 : rg 11 = [0, 1, 2, 3, 4, 5, 6, 7, 8, 9, 10] := rfl
@[simp] theorem rg_12 : rg 12 = [0, 1, 2, 3, 4, 5, 6, 7, 8, 9, 10, 11] := rfl
section
variable {i j : Nat} {ρ ρ1 : En} {d : D} {ea eb ec : En → Ou R} {f g : D → D → Option R} {u : D → Option R}
@[simp] theorem xVar_ap : xVar i ρ = (match ρ[i]? with
  | some (some (.v d)) => .ok (.v d) ρ
  | some (some _) => .ok (.s i) ρ
  | _ => .st) := rfl
@[simp] theorem xC_ap : xC d ρ = .ok (.v d) ρ := rfl
@[simp] theorem xUn_ap : xUn u ea ρ = (ea ρ).bn (lk u) := rfl
@[simp] theorem xBin_ap : xBin f ea eb ρ = (ea ρ).bn fun ra ρ1 => (eb ρ1).bn fun rb ρ2 => lk2 f ra rb ρ2 := rfl
@[simp] theorem lk_ap {r : R} : lk u r ρ = (match pk r ρ with
  | some d => (match u d with
    | some r => .ok r ρ
    | none => .st)
  | none => .st) := rfl
@[simp] theorem lk2_ap {ra rb : R} : lk2 f ra rb ρ = (match pk ra ρ, pk rb ρ with
  | some a, some b => (match f a b with
    | some r => .ok r ρ
    | none => .st)
  | _, _ => .st) := rfl
@[simp] theorem pk_v : pk (.v d) ρ = some d := rfl
@[simp] theorem pk_o {c : C} : pk (.o c) ρ = some c.toD := rfl
@[simp] theorem pk_s : pk (.s i) ρ = (match ρ[i]? with
    | some (some c) => some c.toD
    | _ => none) := rfl
@[simp] theorem toD_v : (C.v d).toD = d := rfl
@[simp] theorem toD_L {ds : List D} : (C.L ds).toD = .lst ds := rfl
@[simp] theorem toD_dK {ds : List (L2.Key × D)} : (C.dK ds).toD = .dK ds := rfl
@[simp] theorem toD_dT {ds : List (List L2.Key × D)} : (C.dT ds).toD = .dT ds := rfl
@[simp] theorem own_v : (C.v d).own = false := rfl
@[simp] theorem own_L {ds : List D} : (C.L ds).own = true := rfl
@[simp] theorem own_dK {ds : List (L2.Key × D)} : (C.dK ds).own = true := rfl
@[simp] theorem own_dT {ds : List (List L2.Key × D)} : (C.dT ds).own = true := rfl
@[simp] theorem toVal_v : toVal (.v d) ρ = some (d, ρ) := rfl
@[simp] theorem toVal_o {c : C} : toVal (.o c) ρ = some (c.toD, ρ) := rfl
@[simp] theorem toVal_s : toVal (.s i) ρ = (match ρ[i]? with
    | some (some (.v d)) => some (d, ρ)
    | some (some c) => some (c.toD, ρ.set i (some (.v c.toD)))
    | _ => none) := rfl
@[simp] theorem vl_ap {ex : En → Ou R} : vl ex ρ = (ex ρ).bn fun r ρ1 => (match toVal r ρ1 with
  | some (d, ρ2) => .ok d ρ2
  | none => .st) := rfl
-- tests
@[simp] theorem bB_ap {r : R} : bB r ρ = (match r with
  | .v (.bl b) => .ok b ρ
  | _ => .st) := rfl
@[simp] theorem tB_ap : tB' ea ρ = (ea ρ).bn bB := rfl
@[simp] theorem tTr_ap : tTr ea ρ = (ea ρ).bn truX := rfl
@[simp] theorem truX_ap {r : R} : truX r ρ = (match pk r ρ with
  | some d => (match truD d with
    | some b => .ok b ρ
    | none => .st)
  | none => .st) := rfl
@[simp] theorem truD_bl {b : Bool} : truD (.bl b) = some b := rfl
@[simp] theorem truD_non : truD .non = some false := rfl
@[simp] theorem truD_int {z : Int} : truD (.int z) = some (z != 0) := rfl
@[simp] theorem truD_lst {ds : List D} : truD (.lst ds) = some (!ds.isEmpty) := rfl
@[simp] theorem truD_tup {ds : List D} : truD (.tup ds) = some (!ds.isEmpty) := rfl
@[simp] theorem tNotX_ap {t : En → Ou Bool} : tNotX t ρ = (t ρ).bn fun b ρ1 => .ok (!b) ρ1 := rfl
@[simp] theorem tAndX_ap {t s : En → Ou Bool} : tAndX t s ρ = (t ρ).bn fun b ρ1 => if b then s ρ1 else .ok false ρ1 := rfl
@[simp] theorem tOrX_ap {t s : En → Ou Bool} : tOrX t s ρ = (t ρ).bn fun b ρ1 => if b then .ok true ρ1 else s ρ1 := rfl
@[simp] theorem xAnd_ap : xAnd ea eb ρ = (tB' ea ρ).bn fun b ρ1 => if b then eb ρ1 else .ok (.v (.bl false)) ρ1 := rfl
@[simp] theorem xOr_ap : xOr ea eb ρ = (tB' ea ρ).bn fun b ρ1 => if b then .ok (.v (.bl true)) ρ1 else eb ρ1 := rfl
@[simp] theorem xNot_ap : xNot ea ρ = (tB' ea ρ).bn fun b ρ1 => .ok (.v (.bl (!b))) ρ1 := rfl
@[simp] theorem xIf_ap {t : En → Ou Bool} : xIf t ea eb ρ = (t ρ).bn fun b ρ1 => if b then ea ρ1 else eb ρ1 := rfl
@[simp] theorem chB_t {k : En → Ou R} : chB (.v (.bl true)) ρ k = k ρ := rfl
@[simp] theorem chB_f {k : En → Ou R} : chB (.v (.bl false)) ρ k = .ok (.v (.bl false)) ρ := rfl
theorem chB_b {k : En → Ou R} {b : Bool} : chB (.v (.bl b)) ρ k = if b then k ρ else .ok (.v (.bl false)) ρ := by cases b <;> rfl
@[simp] theorem chB_bl {k : En → Ou R} {b : Bool} : chB (.v (.bl b)) ρ k = if b then k ρ else .ok (.v (.bl false)) ρ := chB_b
@[simp] theorem xChain_ap : xChain f g ea eb ec ρ = (ea ρ).bn fun ra ρ1 => (eb ρ1).bn fun rb ρ2 => (lk2 f ra rb ρ2).bn fun z ρ3 => chB z ρ3 fun ρ3 => (ec ρ3).bn fun rc ρ4 => lk2 g rb rc ρ4 := rfl
@[simp] theorem tTrue_ap : tTrue ρ = .ok true ρ := rfl
-- rows
@[simp] theorem aNil_ap : aNil ρ = .ok [] ρ := rfl
@[simp] theorem aCons_ap {r : En → Ou (List D)} : aCons ea r ρ = (vl ea ρ).bn fun d ρ1 => (r ρ1).bn fun ds ρ2 => .ok (d :: ds) ρ2 := rfl
@[simp] theorem kNil_ap : kNil ρ = .ok [] ρ := rfl
@[simp] theorem kCons_ap {r : En → Ou (List R)} : kCons ea r ρ = (ea ρ).bn fun a ρ1 => (r ρ1).bn fun as ρ2 => .ok (a :: as) ρ2 := rfl
@[simp] theorem pks_nil : pks ρ [] = some [] := rfl
@[simp] theorem pks_cons {r : R} {rs : List R} : pks ρ (r :: rs) = (match pk r ρ, pks ρ rs with
    | some d, some ds => some (d :: ds)
    | _, _ => none) := rfl
@[simp] theorem mNil_ap : mNil ρ = .ok [] ρ := rfl
@[simp] theorem mCons_ap {r : En → Ou (List R)} : mCons ea r ρ = (ea ρ).bn fun a ρ1 => (match rsR a ρ1 with
  | some (a, ρ2) => (r ρ2).bn fun as ρ3 => .ok (a :: as) ρ3
  | none => .st) := rfl
@[simp] theorem rsR_v : rsR (.v d) ρ = some (.v d, ρ) := rfl
@[simp] theorem rsR_o {c : C} : rsR (.o c) ρ = some (.o c, ρ) := rfl
@[simp] theorem rsR_s : rsR (.s i) ρ = (toVal (.s i) ρ).map fun p => (.v p.1, p.2) := rfl
@[simp] theorem con_v : (R.v d).con = .v d := rfl
@[simp] theorem con_o {c : C} : (R.o c).con = c := rfl
@[simp] theorem stores_nil {rs : List R} : stores [] rs ρ = ρ := by cases rs <;> rfl
@[simp] theorem stores_cons {is : List Nat} {r : R} {rs : List R} : stores (i :: is) (r :: rs) ρ = stores is rs (ρ.set i (some r.con)) := rfl
@[simp] theorem sMul_ap {is : List Nat} {a : En → Ou (List R)} : sMul is a ρ = (a ρ).bn fun rs ρ1 => if rs.length = is.length then .ok .nx (stores is rs ρ1) else .st := rfl
@[simp] theorem gNil_ap : gNil ρ = .ok [] ρ := rfl
@[simp] theorem gVal_ap {r : En → Ou (List Ar)} : gVal ea r ρ = (vl ea ρ).bn fun d ρ1 => (r ρ1).bn fun as ρ2 => .ok (.inl d :: as) ρ2 := rfl
@[simp] theorem gIo_ap {r : En → Ou (List Ar)} : gIo i r ρ = (match ρ[i]? with
  | some (some c) => if c.own then (r ρ).bn fun as ρ2 => .ok (.inr i :: as) ρ2 else .st
  | _ => .st) := rfl
@[simp] theorem xTup_ap {a : En → Ou (List D)} : xTup a ρ = (a ρ).bn fun ds ρ1 => if ds.length ≤ sizeLine then .ok (.v (.tup ds)) ρ1 else .st := rfl
@[simp] theorem xLst_ap {a : En → Ou (List D)} : xLst a ρ = (a ρ).bn fun ds ρ1 => if ds.length ≤ sizeLine then .ok (.o (.L ds)) ρ1 else .st := rfl
@[simp] theorem xNew_ap {c : C} : xNew c ρ = .ok (.o c) ρ := rfl
@[simp] theorem pNone_ap : pNone ρ = .ok none ρ := rfl
@[simp] theorem pSome_ap : pSome ea ρ = (ea ρ).bn fun r ρ1 => (match r with
  | .v (.int i) => .ok (some i) ρ1
  | _ => .st) := rfl
@[simp] theorem xSl_ap {lo hi : PX} : xSl ea lo hi ρ = (ea ρ).bn fun r ρ1 => (lo ρ1).bn fun l ρ2 => (hi ρ2).bn fun h ρ3 => lk (slD l h) r ρ3 := rfl
@[simp] theorem xB_ap {f : List D → Option R} {a : En → Ou (List R)} : xB f a ρ = (a ρ).bn fun rs ρ1 => (match pks ρ1 rs with
  | some ds => (match f ds with
    | some r => .ok r ρ1
    | none => .st)
  | none => .st) := rfl
@[simp] theorem xSM_ap {f : Str → List D → Option R} {a : En → Ou (List R)} : xSM f ea a ρ = (ea ρ).bn fun ro ρ1 => (match pk ro ρ1 with
  | some (.str z) => (a ρ1).bn fun rs ρ2 => (match pks ρ2 rs with
    | some ds => (match f z ds with
      | some r => .ok r ρ2
      | none => .st)
    | none => .st)
  | _ => .st) := rfl
@[simp] theorem xMut_ap {T : String} {f : C → List D → Option (D × C)} {a : En → Ou (List D)} : xMut T f i a ρ = (match ρ[i]? with
  | some (some c) => if c.own && tyC c == T then (a ρ).bn fun ds ρ1 => (match ρ1[i]? with
    | some (some c1) => if c1.own then (match f c1 ds with
      | some (d, c') => if c'.own then .ok (.v d) (ρ1.set i (some c')) else .st
      | none => .st) else .st
    | _ => .st) else .st
  | _ => .st) := rfl
@[simp] theorem tyC_L {ds : List D} : tyC (.L ds) = "list" := rfl
@[simp] theorem tyC_dK {ds : List (L2.Key × D)} : tyC (.dK ds) = "dict" := rfl
@[simp] theorem tyC_dT {ds : List (List L2.Key × D)} : tyC (.dT ds) = "dict" := rfl
@[simp] theorem appendC_ap {ds : List D} : appendC (.L ds) [d] = if ds.length < sizeLine then some (.non, .L (ds ++ [d])) else none := rfl
@[simp] theorem extendC_ap {ds es : List D} : extendC (.L ds) [.lst es] = if ds.length + es.length ≤ sizeLine then some (.non, .L (ds ++ es)) else none := rfl
-- calls
@[simp] theorem xCal_ap {m : Fm} {a : En → Ou (List Ar)} : xCal m a ρ = (a ρ).bn fun as ρ1 => calM m as ρ1 := rfl
@[simp] theorem xCallK_ap {m : Fm} {is : List Nat} {a b : En → Ou (List Ar)} : xCallK m is a b ρ = (a ρ).bn fun as ρ1 => (b ρ1).bn fun bs ρ2 => calM m (pick is (as ++ bs)) ρ2 := rfl
@[simp] theorem xCalT_ap {m : Fm} {a : En → Ou (List Ar)} : xCalT m ea a ρ = (ea ρ).bn fun r ρ1 => (match r with
  | .o c => (a ρ1).bn fun as ρ2 => calT m c as ρ2
  | _ => .st) := rfl
@[simp] theorem calT_ap {m : Fm} {c : C} {as : List Ar} : calT m c as ρ = (match calM m (.inr ρ.length :: as) (ρ ++ [some c]) with
  | .ok r ρ' => .ok r (ρ'.take ρ.length)
  | .er e ρ' => .er e (ρ'.take ρ.length)
  | .st => .st) := rfl
@[simp] theorem calM_ap {m : Fm} {as : List Ar} : calM m as ρ = (match conts ρ as with
  | some cs => if (ioOf as).Nodup then (match m cs with
    | .ok r os => if os.length = cs.length then .ok r (backs as os ρ) else .st
    | .er e os => if os.length = cs.length then .er e (backs as os ρ) else .st
    | .st => .st) else .st
  | none => .st) := rfl
@[simp] theorem conts_nil : conts ρ [] = some [] := rfl
@[simp] theorem conts_inl {as : List Ar} : conts ρ (.inl d :: as) = (conts ρ as).map fun r => some (.v d) :: r := rfl
@[simp] theorem conts_inr {as : List Ar} : conts ρ (.inr i :: as) = (match ρ[i]? with
    | some (some c) => if c.own then (conts ρ as).map fun r => some c :: r else none
    | _ => none) := rfl
@[simp] theorem ioOf_nil : ioOf [] = [] := rfl
@[simp] theorem ioOf_inl {as : List Ar} : ioOf (.inl d :: as) = ioOf as := rfl
@[simp] theorem ioOf_inr {as : List Ar} : ioOf (.inr i :: as) = i :: ioOf as := rfl
@[simp] theorem backs_nil {os : En} : backs [] os ρ = ρ := by cases os <;> rfl
@[simp] theorem backs_inl {as : List Ar} {o : Option C} {os : En} : backs (.inl d :: as) (o :: os) ρ = backs as os ρ := rfl
@[simp] theorem backs_inr {as : List Ar} {o : Option C} {os : En} : backs (.inr i :: as) (o :: os) ρ = backs as os (ρ.set i o) := rfl
@[simp] theorem pick_nil {α : Type} {l : List α} : pick [] l = [] := rfl
@[simp] theorem pick_cons' {α : Type} {is : List Nat} {l : List α} : pick (i :: is) l = (match l[i]? with
  | some a => a :: pick is l
  | none => pick is l) := pick_cons i is l
-- statements
theorem sSeq_ap {a b : En → Ou Fl} : sSeq a b ρ = (a ρ).bn fun f ρ1 => (match f with
  | .nx => b ρ1
  | f => .ok f ρ1) := by
  unfold sSeq
  cases a ρ with
  | ok f ρ1 => cases f <;> rfl
  | _ => rfl
theorem sq {a b : En → Ou Fl} {ρ2 : En} (h : a ρ = .ok .nx ρ2) : sSeq a b ρ = b ρ2 := by rw [sSeq_ap, h]; rfl
theorem sq_rt {a b : En → Ou Fl} {ρ2 : En} {r : R} (h : a ρ = .ok (.rt r) ρ2) : sSeq a b ρ = .ok (.rt r) ρ2 := by rw [sSeq_ap, h]; rfl
@[simp] theorem sNil_ap : sNil ρ = .ok .nx ρ := rfl
@[simp] theorem sBreak_ap : sBreak ρ = .ok .bk ρ := rfl
@[simp] theorem sCont_ap : sCont ρ = .ok .ct ρ := rfl
@[simp] theorem sDrop_ap : sDrop ea ρ = (ea ρ).bn fun _ ρ1 => .ok .nx ρ1 := rfl
@[simp] theorem sIf_ap {t : En → Ou Bool} {a b : En → Ou Fl} : sIf t a b ρ = (t ρ).bn fun c ρ1 => if c then a ρ1 else b ρ1 := rfl
@[simp] theorem sRetN_ap : sRetN ρ = .ok (.rt (.v .non)) ρ := rfl
@[simp] theorem sRet_ap {pn : Nat → Bool} : sRet pn ea ρ = (ea ρ).bn fun r ρ1 => (match mv pn r ρ1 with
  | some (r, ρ2) => .ok (.rt r) ρ2
  | none => .st) := rfl
@[simp] theorem mv_v {pn : Nat → Bool} : mv pn (.v d) ρ = some (.v d, ρ) := rfl
@[simp] theorem mv_o {pn : Nat → Bool} {c : C} : mv pn (.o c) ρ = some (.o c, ρ) := rfl
@[simp] theorem mv_s {pn : Nat → Bool} : mv pn (.s i) ρ = (match ρ[i]? with
    | some (some (.v d)) => some (.v d, ρ)
    | some (some c) => if pn i then some (.v c.toD, ρ.set i (some (.v c.toD))) else some (.o c, ρ.set i none)
    | _ => none) := rfl
@[simp] theorem rsv_v : rsv (.v d) ρ = some (.v d, ρ) := rfl
@[simp] theorem rsv_o {c : C} : rsv (.o c) ρ = some (c, ρ) := rfl
@[simp] theorem rsv_s : rsv (.s i) ρ = (toVal (.s i) ρ).map fun p => (.v p.1, p.2) := rfl
@[simp] theorem sAsg_ap : sAsg i ea ρ = (ea ρ).bn fun r ρ1 => (match rsv r ρ1 with
  | some (c, ρ2) => .ok .nx (ρ2.set i (some c))
  | none => .st) := rfl
@[simp] theorem sAsgG_ap {g : D → En → Ou Unit} : sAsgG ea g ρ = (vl ea ρ).bn fun d ρ1 => (g d ρ1).bn fun _ ρ2 => .ok .nx ρ2 := rfl
@[simp] theorem gNm_ap : gNm i d ρ = .ok () (ρ.set i (some (.v d))) := rfl
@[simp] theorem gsNil_ap : gsNil [] ρ = .ok () ρ := rfl
@[simp] theorem gsCons_ap {g : D → En → Ou Unit} {gs : List D → En → Ou Unit} {ds : List D} : gsCons g gs (d :: ds) ρ = (g d ρ).bn fun _ ρ1 => gs ds ρ1 := rfl
@[simp] theorem gTp_ap {n : Nat} {gs : List D → En → Ou Unit} {ds : List D} : gTp n gs (.tup ds) ρ = if ds.length = n then gs ds ρ else .st := rfl
@[simp] theorem gIx_ap : gIx i ea d ρ = (match ρ[i]? with
  | some (some c0) => if c0.own then (vl ea ρ).bn fun k ρ1 => (match ρ1[i]? with
    | some (some c) => (match putC c k d with
      | some c' => .ok () (ρ1.set i (some c'))
      | none => .st)
    | _ => .st) else .st
  | _ => .st) := rfl
@[simp] theorem putC_L {ds : List D} {k : Int} : putC (.L ds) (.int k) d = (L2.ixN ds.length k).map fun j => .L (ds.set j d) := rfl
@[simp] theorem sAug_ap {f : Int → Int → Int} : sAug i f ea ρ = (match ρ[i]? with
  | some (some (.v (.int a))) => (vl ea ρ).bn fun d ρ1 => (match d with
    | .int b => .ok .nx (ρ1.set i (some (.v (.int (f a b)))))
    | _ => .st)
  | _ => .st) := rfl
-- operators
@[simp] theorem addD_ii {a b : Int} : addD (.int a) (.int b) = some (.v (.int (a + b))) := rfl
@[simp] theorem addD_ss {a b : Str} : addD (.str a) (.str b) = if a.length + b.length ≤ sizeLine then some (.v (.str (a ++ b))) else none := rfl
@[simp] theorem addD_ll {a b : List D} : addD (.lst a) (.lst b) = if a.length + b.length ≤ sizeLine then some (.o (.L (a ++ b))) else none := rfl
@[simp] theorem addD_tt {a b : List D} : addD (.tup a) (.tup b) = if a.length + b.length ≤ sizeLine then some (.v (.tup (a ++ b))) else none := rfl
@[simp] theorem subD_ii {a b : Int} : subD (.int a) (.int b) = some (.v (.int (a - b))) := rfl
@[simp] theorem mulB_ii {a b : Int} : mulB (.int a) (.int b) = if cMul a b = true then some (.v (.int (a * b))) else none := rfl
@[simp] theorem mulB_li {a : List D} {k : Int} : mulB (.lst a) (.int k) = if okW 9223372036854775806 k = true ∧ a.length * k.toNat ≤ sizeLine then some (.o (.L (List.replicate k.toNat a).flatten)) else none := rfl
@[simp] theorem mulB_ti {a : List D} {k : Int} : mulB (.tup a) (.int k) = if a ≠ [] ∧ 2 ≤ k ∧ k ≤ 1000 ∧ a.length ≤ 1000 then some (.v (.tup (List.replicate k.toNat a).flatten)) else none := rfl
@[simp] theorem fdivD_ii {a b : Int} : fdivD (.int a) (.int b) = if okP 1073741823 b = true then some (.v (.int (a / b))) else none := rfl
@[simp] theorem modD_ii {a b : Int} : modD (.int a) (.int b) = if decide (0 < b) = true then some (.v (.int (a % b))) else none := rfl
@[simp] theorem powD_ii {a b : Int} : powD (.int a) (.int b) = if (okN 1000000 b && Nat.ble a.natAbs 18446744073709551615) = true then some (.v (.int (a ^ b.toNat))) else none := rfl
@[simp] theorem negD_i {a : Int} : negD (.int a) = some (.v (.int (-a))) := rfl
theorem okW_of {n : Nat} {i : Int} (h : -(n : Int) - 1 ≤ i ∧ i ≤ n) : okW n i = true := okW_iff.mpr h
theorem okP_of {n : Nat} {i : Int} (h : 1 ≤ i ∧ i ≤ n) : okP n i = true := okP_iff.mpr h
theorem okN_of {n : Nat} {i : Int} (h : 0 ≤ i ∧ i ≤ n) : okN n i = true := okN_iff.mpr h
theorem cMul_r {i j : Int} (h1 : -18446744073709551614 ≤ j) (h2 : j ≤ 18446744073709551614) : cMul i j = true := by
  unfold cMul
  rw [Bool.or_eq_true]
  exact .inr (okW_of ⟨by omega, by omega⟩)
theorem cMul_l {i j : Int} (h1 : -18446744073709551614 ≤ i) (h2 : i ≤ 18446744073709551614) : cMul i j = true := by
  unfold cMul
  rw [Bool.or_eq_true]
  exact .inl (okW_of ⟨by omega, by omega⟩)
@[simp] theorem okW_lit {n m : Nat} : okW n (no_index (OfNat.ofNat m) : Int) = Nat.ble m n := rfl
@[simp] theorem okP_lit {n m : Nat} : okP n (no_index (OfNat.ofNat m) : Int) = (Nat.ble 1 m && Nat.ble m n) := rfl
@[simp] theorem okN_lit {n m : Nat} : okN n (no_index (OfNat.ofNat m) : Int) = Nat.ble m n := rfl
@[simp] theorem ltD_ii {a b : Int} : ltD (.int a) (.int b) = some (.v (.bl (decide (a < b)))) := rfl
@[simp] theorem leD_ii {a b : Int} : leD (.int a) (.int b) = some (.v (.bl (decide (a ≤ b)))) := rfl
@[simp] theorem gtD_ii {a b : Int} : gtD (.int a) (.int b) = some (.v (.bl (decide (a > b)))) := rfl
@[simp] theorem geD_ii {a b : Int} : geD (.int a) (.int b) = some (.v (.bl (decide (a ≥ b)))) := rfl
@[simp] theorem eqD_ap {neg : Bool} {a b : D} : eqD neg a b = (match a.py, b.py with
  | some p, some q => if SeqAt.shaped p && SeqAt.shaped q then some (.v (.bl (if neg then !PyData.eqv p q else PyData.eqv p q))) else none
  | _, _ => none) := rfl
@[simp] theorem py_int {a : Int} : D.py (.int a) = some (.int a) := by unfold D.py; rfl
@[simp] theorem py_str {a : Str} : D.py (.str a) = some (.str a) := by unfold D.py; rfl
@[simp] theorem py_bl {a : Bool} : D.py (.bl a) = some (.bool a) := by unfold D.py; rfl
@[simp] theorem py_non : D.py .non = some .none := by unfold D.py; rfl
@[simp] theorem py_lst {ds : List D} : D.py (.lst ds) = (D.pys ds).map .list := by
  conv => lhs; unfold D.py
@[simp] theorem py_tup {ds : List D} : D.py (.tup ds) = (D.pys ds).map .tuple := by
  conv => lhs; unfold D.py
@[simp] theorem pys_nil : D.pys [] = some [] := by unfold D.pys; rfl
@[simp] theorem pys_cons {ds : List D} : D.pys (d :: ds) = (match d.py, D.pys ds with
    | some p, some ps => some (p :: ps)
    | _, _ => none) := by
  conv => lhs; unfold D.pys
  all_goals rfl
@[simp] theorem itemD_L {ds : List D} {k : Int} : itemD (.lst ds) (.int k) = (L2.atI ds k).map .v := by
  unfold itemD oE ixD
  simp only [ixD]
  cases e : L2.atI ds k <;> simp [dixD, dgetD]
@[simp] theorem itemD_T {ds : List D} {k : Int} : itemD (.tup ds) (.int k) = (L2.atI ds k).map .v := by
  unfold itemD oE ixD
  simp only [ixD]
  cases e : L2.atI ds k <;> simp [dixD, dgetD]
@[simp] theorem itemD_scr {ns : List Int} {k : Int} : itemD (.scr ns) (.int k) = (L2.atI ns k).map fun n => .v (.int n) := by
  unfold itemD oE ixD
  simp only [ixD]
  cases e : L2.atI ns k <;> simp [dixD, dgetD]
@[simp] theorem itemD_str {z : Str} {k : Int} : itemD (.str z) (.int k) = if z.length ≤ sizeLine then (L2.atI z.cps.toList k).map fun c => .v (.str ⟨#[c]⟩) else none := by
  unfold itemD oE ixD
  simp only [ixD]
  by_cases h : z.length ≤ sizeLine
  · simp only [if_pos h]
    cases e : L2.atI z.cps.toList k <;> simp [dixD, dgetD]
  · simp only [if_neg h]
    simp [dixD, dgetD]
@[simp] theorem lenD_L {ds : List D} : lenD [.lst ds] = some (.v (.int ds.length)) := rfl
@[simp] theorem lenD_T {ds : List D} : lenD [.tup ds] = some (.v (.int ds.length)) := rfl
@[simp] theorem lenD_scr {ns : List Int} : lenD [.scr ns] = some (.v (.int ns.length)) := rfl
@[simp] theorem lenD_str {z : Str} : lenD [.str z] = if z.length ≤ sizeLine then some (.v (.int z.length)) else none := rfl
@[simp] theorem tupleD_L {ds : List D} : tupleD [.lst ds] = some (.v (.tup ds)) := rfl
@[simp] theorem tupleD_T {ds : List D} : tupleD [.tup ds] = some (.v (.tup ds)) := rfl
@[simp] theorem listD_L {ds : List D} : listD [.lst ds] = some (.o (.L ds)) := rfl
@[simp] theorem listD_T {ds : List D} : listD [.tup ds] = some (.o (.L ds)) := rfl
@[simp] theorem allD_L {ds : List D} : allD [.lst ds] = (blsD ds).map fun bs => .v (.bl (bs.all id)) := rfl
@[simp] theorem anyD_L {ds : List D} : anyD [.lst ds] = (blsD ds).map fun bs => .v (.bl (bs.any id)) := rfl
@[simp] theorem absD_ap {a : Int} : absD [.int a] = some (.v (.int (if a < 0 then -a else a))) := rfl
@[simp] theorem maxD_ap {a b : Int} : maxD [.int a, .int b] = some (.v (.int (if b > a then b else a))) := rfl
@[simp] theorem minD_ap {a b : Int} : minD [.int a, .int b] = some (.v (.int (if b < a then b else a))) := rfl
@[simp] theorem intD_i {a : Int} : intD [.int a] = some (.v (.int a)) := rfl
@[simp] theorem intD_b {a : Bool} : intD [.bl a] = some (.v (.int (if a then 1 else 0))) := rfl
@[simp] theorem strD_i {a : Int} : strD [.int a] = if a.natAbs.log2 < 1920 then some (.v (.str (toString a))) else none := rfl
@[simp] theorem strD_s {a : Str} : strD [.str a] = some (.v (.str a)) := rfl
@[simp] theorem divmodD_ap {a b : Int} : divmodD [.int a, .int b] = if okP 1073741823 b = true then some (.v (.tup [.int (a / b), .int (a % b)])) else none := rfl
@[simp] theorem isiD_ap {d : D} {n : String} : isiD [d, .ty n] = (match tyD d with
    | some t => if kinds.tail.contains n then some (.v (.bl (isT t n))) else none
    | none => none) := rfl
@[simp] theorem sortedD_L {ds : List D} : sortedD [.lst ds] = if sortOk ds then some (.o (.L (sortD ds))) else none := rfl
@[simp] theorem sortedD_T {ds : List D} : sortedD [.tup ds] = if sortOk ds then some (.o (.L (sortD ds))) else none := rfl
@[simp] theorem itemsD_L {ds : List D} : itemsD (.lst ds) = some ds := rfl
@[simp] theorem itemsD_T {ds : List D} : itemsD (.tup ds) = some ds := rfl
@[simp] theorem itemsD_scr {ns : List Int} : itemsD (.scr ns) = some (ns.map .int) := rfl
@[simp] theorem itemsD_str {z : Str} : itemsD (.str z) = some (z.cps.toList.map fun c => .str ⟨#[c]⟩) := rfl
@[simp] theorem iSeq_ap : iSeq ea ρ = (vl ea ρ).bn fun d ρ1 => (match itemsD d with
  | some ds => .ok ds ρ1
  | none => .st) := rfl
@[simp] theorem iEnumA_ap : iEnumA ea ρ = (vl ea ρ).bn fun d ρ1 => (match d with
  | .lst ds => .ok (enumD ds) ρ1
  | .tup ds => .ok (enumD ds) ρ1
  | _ => .st) := rfl
theorem xRng1_ap : xRng1 ea ρ = (aCons ea aNil ρ).bn fun ds ρ1 => (match ds with
    | [.int j] => if okR j then .ok (rngD 0 j) ρ1 else .st
    | _ => .st) := rfl
theorem xRng2_ap : xRng2 ea eb ρ = (aCons ea (aCons eb aNil) ρ).bn fun ds ρ1 => (match ds with
    | [.int i, .int j] => if okR i && okR j then .ok (rngD i j) ρ1 else .st
    | _ => .st) := rfl
theorem fnM_ap {n N : Nat} {pn : Nat → Bool} {b : En → Ou Fl} : fnM n N pn b ρ = if ρ.length = n ∧ (rg n).all (argOk pn ρ) = true then (match b (ρ ++ List.replicate (N - n) none) with
    | .ok .nx ρ' => .ok (.v .non) (fin n pn ρ ρ')
    | .ok (.rt (.v d)) ρ' => .ok (.v d) (fin n pn ρ ρ')
    | .ok (.rt (.o c)) ρ' => .ok (.o c) (fin n pn ρ ρ')
    | .er e ρ' => .er e (fin n pn ρ ρ')
    | _ => .st) else .st := rfl
theorem fin_ap {n : Nat} {pn : Nat → Bool} : fin n pn ρ ρ1 = (rg n).map fun i => if pn i then ρ1.getD i none else ρ.getD i none := rfl
theorem xLc_ap {xi : En → Ou (List D)} {g : D → En → Ou Unit} {t : En → Ou Bool} {vs : List Nat} : xLc xi g t ea vs ρ = (xi ρ).bn fun items ρ1 => (noEr (lcL g t ea vs items [] (wipE ρ1 vs))).bn fun ds ρb => .ok (.o (.L ds)) (unw ρ1 ρb vs) := rfl
theorem sFor_ap {xi : En → Ou (List D)} {g : D → En → Ou Unit} {b : En → Ou Fl} : sFor xi g b ρ = (xi ρ).bn fun ds ρ1 => forL g b ds ρ1 := rfl
@[simp] theorem noEr_ok {α : Type} {a : α} : noEr (.ok a ρ) = .ok a ρ := rfl
@[simp] theorem wipE_nil : wipE ρ [] = ρ := rfl
@[simp] theorem wipE_cons {vs : List Nat} : wipE ρ (i :: vs) = (wipE ρ vs).set i none := rfl
@[simp] theorem unw_nil {ρb : En} : unw ρ1 ρb [] = ρb := rfl
@[simp] theorem unw_cons {ρb : En} {vs : List Nat} : unw ρ1 ρb (i :: vs) = (unw ρ1 ρb vs).set i (ρ1.getD i none) := rfl
end

/-! ### loops -/
/-- a comprehension, by what holds at each turn: I remaining found env -/
theorem lcL_inv {g : D → En → Ou Unit} {t : En → Ou Bool} {e : En → Ou R} {vs : List Nat} (I : List D → List D → En → Prop)
    (step : ∀ d ds acc ρ, I (d :: ds) acc ρ → ∃ ρ1 c ρ2, g d ρ = .ok () ρ1 ∧ t ρ1 = .ok c ρ2 ∧ ((c = false ∧ I ds acc (wipE ρ2 vs)) ∨ (c = true ∧ acc.length < 16777216 ∧ ∃ y ρ3, vl e ρ2 = .ok y ρ3 ∧ I ds (acc ++ [y]) (wipE ρ3 vs)))) :
    ∀ (ds acc : List D) (ρ : En), I ds acc ρ → ∃ out ρ', lcL g t e vs ds acc ρ = .ok out ρ' ∧ I [] out ρ'
  | [], acc, ρ, h => ⟨acc, ρ, rfl, h⟩
  | d :: ds, acc, ρ, h => by
    obtain ⟨ρ1, c, ρ2, h1, h2, h3⟩ := step d ds acc ρ h
    unfold lcL
    rw [h1, Ou.bn_ok, h2, Ou.bn_ok]
    rcases h3 with ⟨rfl, h3⟩ | ⟨rfl, hz, y, ρ3, h4, h3⟩
    · rw [if_neg (by decide)]
      exact lcL_inv I step ds acc _ h3
    · rw [if_pos rfl, h4, Ou.bn_ok, if_pos (by rw [sizeLine_num]; exact hz)]
      exact lcL_inv I step ds _ _ h3
/-- a loop that runs to its end -/
theorem forL_inv {g : D → En → Ou Unit} {b : En → Ou Fl} (I : List D → En → Prop)
    (step : ∀ d ds ρ, I (d :: ds) ρ → ∃ ρ1 ρ2, g d ρ = .ok () ρ1 ∧ b ρ1 = .ok .nx ρ2 ∧ I ds ρ2) : ∀ (ds : List D) (ρ : En), I ds ρ → ∃ ρ', forL g b ds ρ = .ok .nx ρ' ∧ I [] ρ'
  | [], ρ, h => ⟨ρ, rfl, h⟩
  | d :: ds, ρ, h => by
    obtain ⟨ρ1, ρ2, h1, h2, h3⟩ := step d ds ρ h
    unfold forL
    rw [h1, Ou.bn_ok, h2, Ou.bn_ok]
    exact forL_inv I step ds ρ2 h3
/-- a comprehension that draws nothing: by its items -/
theorem lcL_map {g : D → En → Ou Unit} {t : En → Ou Bool} {e : En → Ou R} {vs : List Nat} (f : D → Option D) {ρ : En} : ∀ (ds acc : List D),
    (∀ d ∈ ds, ∃ ρ1 ρ2, g d ρ = .ok () ρ1 ∧ ((f d = none ∧ t ρ1 = .ok false ρ2 ∧ wipE ρ2 vs = ρ) ∨ ∃ y ρ3, f d = some y ∧ t ρ1 = .ok true ρ2 ∧ vl e ρ2 = .ok y ρ3 ∧ wipE ρ3 vs = ρ)) →
    acc.length + ds.length ≤ 16777216 → lcL g t e vs ds acc ρ = .ok (acc ++ ds.filterMap f) ρ
  | [], acc, h, hz => by simp [lcL]
  | d :: ds, acc, h, hz => by
    obtain ⟨ρ1, ρ2, h1, h2⟩ := h d List.mem_cons_self
    unfold lcL
    rw [h1, Ou.bn_ok]
    rcases h2 with ⟨e1, e2, e3⟩ | ⟨y, ρ3, e1, e2, e3, e4⟩
    · rw [e2, Ou.bn_ok, if_neg (by decide), e3, lcL_map f ds acc (fun d hd => h d (List.mem_cons_of_mem _ hd)) (by simp at hz; omega), List.filterMap_cons_none e1]
    · have : acc.length < sizeLine := by rw [sizeLine_num]; simp at hz; omega
      rw [e2, Ou.bn_ok, if_pos rfl, e3, Ou.bn_ok, if_pos this, e4, lcL_map f ds (acc ++ [y]) (fun d hd => h d (List.mem_cons_of_mem _ hd)) (by simp at hz ⊢; omega), List.filterMap_cons_some e1]
      simp
end Dm
end TxtDm20

section TxtDm21
set_option Elab.async false
set_option linter.all false
set_option maxRecDepth 100000
/-! Dm21: what can be shown and compared; strings in rows; sorting strings. -/
namespace Dm
open PySem PySem.Spec PyProof.Rows

theorem textFrom_le : ∀ (ts : List Str) (k : Nat) (acc : Str), (textFrom k acc ts).length ≤ acc.length + piled ts
  | [], k, acc => by simp [textFrom, piled]
  | t :: ts, k, acc => by
    have h := textFrom_le ts (k + 1) (acc ++ (if k > 0 then ", " else "" : String) ++ t)
    have e : (acc ++ (if k > 0 then ", " else "" : String) ++ t).length ≤ acc.length + 2 + t.length := by
      rw [strLen_append, strLen_append]
      have : (((if k > 0 then ", " else "" : String)) : Str).length ≤ 2 := by split <;> decide
      omega
    show (textFrom (k + 1) _ ts).length ≤ _
    rw [piled_cons]
    omega
theorem listText_le (ts : List Str) : (listText ts).length ≤ piled ts + 2 := by
  unfold listText
  rw [strLen_append]
  have h := textFrom_le ts 0 "["
  have e1 : (("[" : String) : Str).length = 1 := rfl
  have e2 : (("]" : String) : Str).length = 1 := rfl
  omega
theorem tupleText_le (ts : List Str) : (tupleText ts).length ≤ piled ts + 3 := by
  unfold tupleText
  rw [strLen_append, strLen_append]
  have h : (Str.join ", " ts).length ≤ piled ts := by
    cases ts with
    | nil => decide
    | cons t ts => have := join_length_add (t :: ts) (by simp); omega
  have e1 : (("(" : String) : Str).length = 1 := rfl
  have e2 : (((if ts.length == 1 then ",)" else ")" : String)) : Str).length ≤ 2 := by split <;> decide
  omega
/-! signs below 128 -/
def AscS (x : Str) : Prop := ∀ c ∈ x.cps.toList, c < 128
theorem AscS.app {x y : Str} (hx : AscS x) (hy : AscS y) : AscS (x ++ y) := by
  intro c hc
  have e : (x ++ y).cps.toList = x.cps.toList ++ y.cps.toList := by
    show (x.cps ++ y.cps).toList = _
    simp
  rw [e] at hc
  rcases List.mem_append.mp hc with h | h
  · exact hx c h
  · exact hy c h
theorem AscS.of {x : Str} (h : x.cps.toList.all (fun c => decide (c < 128)) = true) : AscS x := fun c hc => of_decide_eq_true (List.all_eq_true.mp h c hc)
theorem reprChar_asc : ∀ c < 128, ∀ q ∈ [39, 34], (PySem.Builtin.Str.reprChar q c).all (fun d => decide (d < 128)) = true := by decide +kernel
theorem foldl_asc {q : Nat} (hq : q ∈ [39, 34]) : ∀ (l : List Nat) (acc : Array Nat), (∀ c ∈ l, c < 128) → (∀ c ∈ acc.toList, c < 128) → ∀ c ∈ (l.foldl (fun out c => out ++ (PySem.Builtin.Str.reprChar q c).toArray) acc).toList, c < 128
  | [], acc, _, h => h
  | d :: l, acc, hl, h => by
    refine foldl_asc hq l _ (fun c hc => hl c (List.mem_cons_of_mem _ hc)) fun c hc => ?_
    simp only [Array.toList_append] at hc
    rcases List.mem_append.mp hc with h1 | h1
    · exact h c h1
    · exact of_decide_eq_true (List.all_eq_true.mp (reprChar_asc d (hl d List.mem_cons_self) q hq) c h1)
theorem reprText_asc {x : Str} (h : AscS x) : AscS (reprText x) := by
  have hq : reprQuote x ∈ [39, 34] := by unfold reprQuote; split <;> simp
  have hq2 : reprQuote x < 128 := by unfold reprQuote; split <;> decide
  intro c hc
  unfold reprText at hc
  rw [Array.toList_push, ← Array.foldl_toList] at hc
  rcases List.mem_append.mp hc with h1 | h1
  · refine foldl_asc hq _ _ h (fun d hd => ?_) c h1
    simp at hd; subst hd; exact hq2
  · simp at h1; subst h1; exact hq2
theorem textFrom_asc : ∀ (ts : List Str) (k : Nat) (acc : Str), AscS acc → (∀ t ∈ ts, AscS t) → AscS (textFrom k acc ts)
  | [], _, _, h, _ => h
  | t :: ts, k, acc, h, ht => by
    refine textFrom_asc ts (k + 1) _ (AscS.app (AscS.app h ?_) (ht t List.mem_cons_self)) fun u hu => ht u (List.mem_cons_of_mem _ hu)
    split <;> exact AscS.of (by decide)
theorem join_asc {s : Str} (hs : AscS s) : ∀ ts : List Str, (∀ t ∈ ts, AscS t) → AscS (Str.join s ts)
  | [], _ => fun c hc => by simp [Str.join, Str.empty] at hc
  | [x], h => h x List.mem_cons_self
  | x :: y :: r, h => AscS.app (AscS.app (h x List.mem_cons_self) hs) (join_asc hs (y :: r) fun t ht => h t (List.mem_cons_of_mem _ ht))
theorem listText_asc {ts : List Str} (h : ∀ t ∈ ts, AscS t) : AscS (listText ts) := AscS.app (textFrom_asc ts 0 _ (AscS.of (by decide)) h) (AscS.of (by decide))
theorem tupleText_asc {ts : List Str} (h : ∀ t ∈ ts, AscS t) : AscS (tupleText ts) := by
  refine AscS.app (AscS.app (AscS.of (by decide)) (join_asc (AscS.of (by decide)) ts h)) ?_
  split <;> exact AscS.of (by decide)
/-- data that can be shown in at most n signs, at most k deep -/
structure Shows (p : PyData) (n k : Nat) : Prop where
  sh : p.showable = true
  nd : p.hasDict = false
  cl : p.canLay0 = true
  dp : p.depth ≤ k
  ln : p.shown.length ≤ n
  asc : AscS p.shown
theorem Shows.mono {p : PyData} {n n' k k' : Nat} (h : Shows p n k) (hn : n ≤ n') (hk : k ≤ k') : Shows p n' k' := ⟨h.sh, h.nd, h.cl, Nat.le_trans h.dp hk, Nat.le_trans h.ln hn, h.asc⟩
theorem Shows.reprOk {p : PyData} {n k : Nat} (h : Shows p n k) (hs : isSeq p = true) (hn : n ≤ sizeLine) (hk : k ≤ 100) : reprOk p = true := by
  unfold Dm.reprOk
  rw [hs, h.sh, h.nd, decide_eq_true (Nat.le_trans h.dp hk), decide_eq_true (Nat.le_trans h.ln hn)]
  rfl
theorem Shows.shaped {p : PyData} {n k : Nat} (h : Shows p n k) (hk : k ≤ 64) : SeqAt.shaped p = true := by
  unfold SeqAt.shaped
  rw [h.cl, decide_eq_true (Nat.le_trans h.dp hk)]
  rfl
theorem Shows.refl {p : PyData} {n k : Nat} (h : Shows p n k) : PyData.eqv p p = true := PySem.SeqAt.eqv_refl p h.cl
theorem lt_log2 {n k : Nat} (h : n < 2 ^ k) (hk : 0 < k) : n.log2 < k := by
  by_cases h0 : n = 0
  · subst h0; simpa using hk
  · exact (Nat.log2_lt h0).mpr h
theorem Shows.str {x : Str} (h : ∀ c ∈ x.cps.toList, c < 128) : Shows (.str x) (10 * x.length + 2) 0 := by
  refine ⟨rfl, by simp [PyData.hasDict], ?_, by simp [PyData.depth], ?_, ?_⟩
  · show PyData.strOk x = true
    unfold PyData.strOk
    rw [Array.all_eq_true']
    intro c hc
    have := h c (by simpa using hc)
    exact decide_eq_true (by omega)
  · simp only [PyData.shown]
    exact PySem.StrLaws.reprText_len x fun c hc => by have := h c hc; omega
  · simp only [PyData.shown]; exact reprText_asc h
theorem Shows.int {i : Int} (h : i.natAbs < 10 ^ 12) : Shows (.int i) 13 0 := by
  refine ⟨?_, by simp [PyData.hasDict], by simp [PyData.canLay0], by simp [PyData.depth], ?_, ?_⟩
  · simp only [PyData.showable]
    refine decide_eq_true (lt_log2 (Nat.lt_of_lt_of_le h ?_) (by decide))
    exact Nat.le_trans (by decide : 10 ^ 12 ≤ 2 ^ 40) (Nat.pow_le_pow_right (by decide) (by decide))
  · simp only [PyData.shown]
    rw [PySem.ofString_length]
    exact int_text_length_le10 (k := 12) (by decide) h
  · simp only [PyData.shown]; exact PySem.W.KSb.asc_num i
theorem Shows.bl (b : Bool) : Shows (.bool b) 5 0 := by
  refine ⟨rfl, by simp [PyData.hasDict], by simp [PyData.canLay0], by simp [PyData.depth], ?_, ?_⟩
  · cases b <;> decide
  · cases b <;> exact AscS.of (by decide)
theorem Shows.non : Shows .none 4 0 := ⟨rfl, by simp [PyData.hasDict], by simp [PyData.canLay0], by simp [PyData.depth], by decide, AscS.of (by decide)⟩
structure ShowsAll (ps : List PyData) (n k : Nat) : Prop where
  sh : PyData.showableAll ps = true
  nd : PyData.hasDictAll ps = false
  cl : PyData.canLayAll0 ps = true
  dp : PyData.depthAll ps ≤ k
  ln : piled (PyData.shownAll ps) ≤ n
  asc : ∀ t ∈ PyData.shownAll ps, AscS t
theorem ShowsAll.nil {k : Nat} : ShowsAll [] 0 k := ⟨rfl, by simp [PyData.hasDictAll], by simp [PyData.canLayAll0], by simp [PyData.depthAll], by simp [PyData.shownAll, piled], by simp [PyData.shownAll]⟩
theorem ShowsAll.cons {p : PyData} {ps : List PyData} {a b k : Nat} (h : Shows p a k) (t : ShowsAll ps b k) : ShowsAll (p :: ps) (a + 2 + b) k := by
  refine ⟨by simp [PyData.showableAll, h.sh, t.sh], by simp [PyData.hasDictAll, h.nd, t.nd], by simp [PyData.canLayAll0, h.cl, t.cl], ?_, ?_, ?_⟩
  · simp only [PyData.depthAll]
    have := h.dp; have := t.dp
    omega
  · simp only [PyData.shownAll, piled_cons]
    have := h.ln; have := t.ln
    omega
  · simp only [PyData.shownAll]
    intro u hu
    rcases List.mem_cons.mp hu with rfl | hu
    · exact h.asc
    · exact t.asc u hu
theorem ShowsAll.of {a k : Nat} : ∀ {ps : List PyData}, (∀ p ∈ ps, Shows p a k) → ShowsAll ps (ps.length * (a + 2)) k
  | [], _ => by simpa using ShowsAll.nil
  | p :: ps, h => by
    have t := ShowsAll.of (ps := ps) fun q hq => h q (List.mem_cons_of_mem _ hq)
    have c := ShowsAll.cons (h p List.mem_cons_self) t
    have e : a + 2 + ps.length * (a + 2) = (p :: ps).length * (a + 2) := by simp [Nat.succ_mul]; omega
    rw [e] at c
    exact c
theorem ShowsAll.mono {ps : List PyData} {n n' k k' : Nat} (h : ShowsAll ps n k) (hn : n ≤ n') (hk : k ≤ k') : ShowsAll ps n' k' := ⟨h.sh, h.nd, h.cl, Nat.le_trans h.dp hk, Nat.le_trans h.ln hn, h.asc⟩
theorem Shows.list {ps : List PyData} {n k : Nat} (h : ShowsAll ps n k) : Shows (.list ps) (n + 2) (k + 1) := by
  refine ⟨by simp [PyData.showable, h.sh], by simp [PyData.hasDict, h.nd], by simp [PyData.canLay0, h.cl], ?_, ?_, ?_⟩
  · simp only [PyData.depth]; have := h.dp; omega
  · simp only [PyData.shown]
    have := listText_le (PyData.shownAll ps); have := h.ln
    omega
  · simp only [PyData.shown]; exact listText_asc h.asc
theorem Shows.tuple {ps : List PyData} {n k : Nat} (h : ShowsAll ps n k) : Shows (.tuple ps) (n + 3) (k + 1) := by
  refine ⟨by simp [PyData.showable, h.sh], by simp [PyData.hasDict, h.nd], by simp [PyData.canLay0, h.cl], ?_, ?_, ?_⟩
  · simp only [PyData.depth]; have := h.dp; omega
  · simp only [PyData.shown]
    have := tupleText_le (PyData.shownAll ps); have := h.ln
    omega
  · simp only [PyData.shown]; exact tupleText_asc h.asc
@[simp] theorem shaped_int (i : Int) : SeqAt.shaped (.int i) = true := rfl
@[simp] theorem shaped_bl (i : Bool) : SeqAt.shaped (.bool i) = true := rfl
@[simp] theorem shaped_non : SeqAt.shaped .none = true := rfl
theorem shaped_str {x : Str} (h : AscS x) : SeqAt.shaped (.str x) = true := (Shows.str h).shaped (by decide)
@[simp] theorem eqv_int (i j : Int) : PyData.eqv (.int i) (.int j) = (i == j) := by simp only [PyData.eqv]
@[simp] theorem eqv_str (i j : Str) : PyData.eqv (.str i) (.str j) = (i == j) := by simp only [PyData.eqv]
@[simp] theorem eqv_bl (i j : Bool) : PyData.eqv (.bool i) (.bool j) = (i == j) := by simp only [PyData.eqv]
theorem Shows.repr {d : D} {p : PyData} {n k : Nat} (e : d.py = some p) (h : Shows p n k) (hs : isSeq p = true) (hn : n ≤ sizeLine) (hk : k ≤ 100) : reprD [d] = some (.v (.str p.shown)) := by
  have ok := h.reprOk hs hn hk
  unfold reprD
  split
  · rename_i i hi
    cases hi
    rw [py_int] at e; cases e; cases hs
  · rename_i d' hd
    cases hd
    rw [e]
    simp only
    rw [if_pos ok]
  · rename_i h1 h2
    exact absurd rfl (h2 d)
theorem eq_same {neg : Bool} {x : Str} (h : AscS x) : eqD neg (.str x) (.str x) = some (.v (.bl (!neg))) := by
  simp [shaped_str h]
/-! ### rows of strings, of ints -/
@[simp] theorem pys_strs (ws : List Str) : D.pys (ws.map .str) = some (ws.map .str) := by
  induction ws with
  | nil => simp
  | cons w ws ih => simp [ih]
@[simp] theorem pys_ints (ws : List Int) : D.pys (ws.map .int) = some (ws.map .int) := by
  induction ws with
  | nil => simp
  | cons w ws ih => simp [ih]
@[simp] theorem flat_strs (ws : List Str) : (ws.map D.str).all flatD = true := by
  induction ws with
  | nil => rfl
  | cons w ws ih => simpa [flatD] using ih
@[simp] theorem flat_ints (ws : List Int) : (ws.map D.int).all flatD = true := by
  induction ws with
  | nil => rfl
  | cons w ws ih => simpa [flatD] using ih
theorem inV_strs (x : Str) (ws : List Str) : L2.inV (.str x) ((ws.map D.str).map vOf) = decide (x ∈ ws) := by
  induction ws with
  | nil => rfl
  | cons w ws ih =>
    show (L2.eqV (.str w) (.str x) || L2.inV (.str x) ((ws.map D.str).map vOf)) = _
    rw [ih]
    show (w == x || _) = _
    by_cases h : w = x
    · subst h; simp
    · have h' : ¬ x = w := fun e => h e.symm
      simp [h, h']
theorem inV_ints (x : Int) (ws : List Int) : L2.inV (.int x) ((ws.map D.int).map vOf) = decide (x ∈ ws) := by
  induction ws with
  | nil => rfl
  | cons w ws ih =>
    show (L2.eqV (.int w) (.int x) || L2.inV (.int x) ((ws.map D.int).map vOf)) = _
    rw [ih]
    show (w == x || _) = _
    by_cases h : w = x
    · subst h; simp
    · have h' : ¬ x = w := fun e => h e.symm
      simp [h, h']
@[simp] theorem inAD_tS {neg : Bool} {x : Str} {ws : List Str} : inAD neg (.str x) (.tup (ws.map .str)) = some (.v (.bl (if neg then !decide (x ∈ ws) else decide (x ∈ ws)))) := by
  show (match (if (flatD (.str x) && (ws.map D.str).all flatD) = true then some (R.v (.bl (if neg then !L2.inV (.str x) ((ws.map D.str).map vOf) else L2.inV (.str x) ((ws.map D.str).map vOf)))) else none) with
    | some r => some r
    | none => _) = _
  rw [inV_strs, flat_strs]
  rfl
@[simp] theorem inAD_lS {neg : Bool} {x : Str} {ws : List Str} : inAD neg (.str x) (.lst (ws.map .str)) = some (.v (.bl (if neg then !decide (x ∈ ws) else decide (x ∈ ws)))) := by
  show (match (if (flatD (.str x) && (ws.map D.str).all flatD) = true then some (R.v (.bl (if neg then !L2.inV (.str x) ((ws.map D.str).map vOf) else L2.inV (.str x) ((ws.map D.str).map vOf)))) else none) with
    | some r => some r
    | none => _) = _
  rw [inV_strs, flat_strs]
  rfl
@[simp] theorem inAD_tI {neg : Bool} {x : Int} {ws : List Int} : inAD neg (.int x) (.tup (ws.map .int)) = some (.v (.bl (if neg then !decide (x ∈ ws) else decide (x ∈ ws)))) := by
  show (match (if (flatD (.int x) && (ws.map D.int).all flatD) = true then some (R.v (.bl (if neg then !L2.inV (.int x) ((ws.map D.int).map vOf) else L2.inV (.int x) ((ws.map D.int).map vOf)))) else none) with
    | some r => some r
    | none => _) = _
  rw [inV_ints, flat_ints]
  rfl
@[simp] theorem inAD_lI {neg : Bool} {x : Int} {ws : List Int} : inAD neg (.int x) (.lst (ws.map .int)) = some (.v (.bl (if neg then !decide (x ∈ ws) else decide (x ∈ ws)))) := by
  show (match (if (flatD (.int x) && (ws.map D.int).all flatD) = true then some (R.v (.bl (if neg then !L2.inV (.int x) ((ws.map D.int).map vOf) else L2.inV (.int x) ((ws.map D.int).map vOf)))) else none) with
    | some r => some r
    | none => _) = _
  rw [inV_ints, flat_ints]
  rfl
/-- a sign in a text -/
@[simp] theorem inAD_cS {neg : Bool} {c : Nat} {y : Str} : inAD neg (.str ⟨#[c]⟩) (.str y) = some (.v (.bl (if neg then !decide (c ∈ y.cps.toList) else decide (c ∈ y.cps.toList)))) := rfl
/-! ### sorting strings -/
def leS (a b : Str) : Bool := decide (a.cps.toList ≤ b.cps.toList)
def sortS (ws : List Str) : List Str := isort leS ws
theorem leD'_S (a b : Str) : leD' (.str a) (.str b) = leS a b := by
  have h := PySem.W.dataLe_str (β := Str) (fun b => b)
  have := congrFun (congrFun h a) b
  unfold leS leD'
  rw [← this]
  rfl
theorem insS_map {α β : Type} {le : α → α → Bool} {le' : β → β → Bool} (f : α → β) (h : ∀ a b, le' (f a) (f b) = le a b) (a : α) : ∀ l : List α, insS le' (f a) (l.map f) = (insS le a l).map f
  | [] => rfl
  | b :: bs => by
    show (if le' (f a) (f b) then f a :: f b :: bs.map f else f b :: insS le' (f a) (bs.map f)) = (if le a b then a :: b :: bs else b :: insS le a bs).map f
    rw [h, insS_map f h a bs]
    split <;> rfl
theorem isort_map {α β : Type} {le : α → α → Bool} {le' : β → β → Bool} (f : α → β) (h : ∀ a b, le' (f a) (f b) = le a b) : ∀ l : List α, isort le' (l.map f) = (isort le l).map f
  | [] => rfl
  | a :: l => by
    show insS le' (f a) (isort le' (l.map f)) = (insS le a (isort le l)).map f
    rw [isort_map f h l, insS_map f h]
@[simp] theorem sortD_strs (ws : List Str) : sortD (ws.map .str) = (sortS ws).map .str := isort_map D.str leD'_S ws
theorem sortOk_strs {ws : List Str} (h : ws.length ≤ sizeLine) : sortOk (ws.map .str) = true := by
  unfold sortOk
  rw [pys_strs]
  have a1 : ((ws.map PyData.str).all fun p => (ws.map PyData.str).all (PySem.W.alike p)) = true := by
    rw [List.all_eq_true]
    intro p hp
    rw [List.all_eq_true]
    intro q hq
    obtain ⟨x, _, rfl⟩ := List.mem_map.mp hp
    obtain ⟨y, _, rfl⟩ := List.mem_map.mp hq
    simp [PySem.W.alike]
  have a2 : (ws.map PyData.str).all noTup = true := by
    rw [List.all_eq_true]
    intro p hp
    obtain ⟨x, _, rfl⟩ := List.mem_map.mp hp
    rfl
  have a3 : (ws.map PyData.str).all (fun p => decide (p.depth ≤ 100)) = true := by
    rw [List.all_eq_true]
    intro p hp
    obtain ⟨x, _, rfl⟩ := List.mem_map.mp hp
    simp [PyData.depth]
  simp only [a1, a2, a3, List.length_map, decide_eq_true h, Bool.or_true, Bool.and_self]
theorem insS_perm {α : Type} {le : α → α → Bool} {a : α} : ∀ l : List α, (insS le a l).Perm (a :: l)
  | [] => .refl _
  | b :: bs => by
    show (if le a b then a :: b :: bs else b :: insS le a bs).Perm _
    split
    · exact .refl _
    · exact ((insS_perm bs).cons b).trans (.swap a b bs)
theorem isort_perm {α : Type} {le : α → α → Bool} : ∀ l : List α, (isort le l).Perm l
  | [] => .refl _
  | a :: l => (insS_perm _).trans ((isort_perm l).cons a)
theorem insS_sorted {α : Type} {le : α → α → Bool} (tr : ∀ a b c, le a b = true → le b c = true → le a c = true) (tot : ∀ a b, (le a b || le b a) = true) {a : α} : ∀ {l : List α}, l.Pairwise (fun a b => le a b = true) → (insS le a l).Pairwise (fun a b => le a b = true)
  | [], _ => by simp [insS]
  | b :: bs, h => by
    show (if le a b then a :: b :: bs else b :: insS le a bs).Pairwise _
    obtain ⟨h1, h2⟩ := List.pairwise_cons.mp h
    split
    · rename_i hab
      refine List.pairwise_cons.mpr ⟨fun c hc => ?_, h⟩
      rcases List.mem_cons.mp hc with rfl | hc
      · exact hab
      · exact tr a b c hab (h1 c hc)
    · rename_i hab
      refine List.pairwise_cons.mpr ⟨fun c hc => ?_, insS_sorted tr tot h2⟩
      rcases List.mem_cons.mp ((insS_perm bs).mem_iff.mp hc) with rfl | hc
      · have := tot c b
        simpa [hab] using this
      · exact h1 c hc
theorem isort_sorted {α : Type} {le : α → α → Bool} (tr : ∀ a b c, le a b = true → le b c = true → le a c = true) (tot : ∀ a b, (le a b || le b a) = true) : ∀ l : List α, (isort le l).Pairwise (fun a b => le a b = true)
  | [] => .nil
  | a :: l => insS_sorted tr tot (isort_sorted tr tot l)
theorem leS_trans (a b c : Str) (h1 : leS a b = true) (h2 : leS b c = true) : leS a c = true := by
  unfold leS at *
  simp only [decide_eq_true_eq] at *
  exact List.le_trans h1 h2
theorem leS_total (a b : Str) : (leS a b || leS b a) = true := by
  unfold leS
  rcases List.le_total a.cps.toList b.cps.toList with h | h <;> simp [h]
theorem sortS_perm (ws : List Str) : (sortS ws).Perm ws := isort_perm ws
theorem sortS_sorted (ws : List Str) : (sortS ws).Pairwise (fun a b => leS a b = true) := isort_sorted leS_trans leS_total ws
theorem str_ext {a b : Str} (h : a.cps.toList = b.cps.toList) : a = b := by
  obtain ⟨⟨a⟩⟩ := a
  obtain ⟨⟨b⟩⟩ := b
  have : a = b := h
  rw [this]
theorem sortS_lt {ws : List Str} (h : ws.Nodup) : (sortS ws).Pairwise (fun a b => leS b a = false) := by
  have n := (sortS_perm ws).nodup_iff.mpr h
  refine List.Pairwise.imp_of_mem ?_ ((sortS_sorted ws).and n)
  intro a b _ _ ⟨h1, h2⟩
  cases e : leS b a with
  | false => rfl
  | true =>
    unfold leS at h1 e
    simp only [decide_eq_true_eq] at h1 e
    exact absurd (str_ext (List.le_antisymm h1 e)) h2
end Dm
end TxtDm21

section TxtDm22
set_option Elab.async false
set_option linter.all false
set_option maxRecDepth 100000
/-! Dm22: ranges; items by a number; join. -/
namespace Dm
open PySem PySem.Spec PyProof.Rows

theorem okR_nat {m : Nat} (h : m ≤ 16777216) : okR (m : Int) = true := okW_of ⟨by omega, by omega⟩
theorem xRng1_ok {ex : En → Ou R} {ρ ρ1 : En} {m : Nat} (h : vl ex ρ = .ok (.int (m : Int)) ρ1) (hm : m ≤ 16777216) : xRng1 ex ρ = .ok (rngD 0 (m : Int)) ρ1 := by
  have o := okR_nat hm
  unfold xRng1 aCons aNil
  rw [h]
  show (if okR (m : Int) = true then Ou.ok (rngD 0 (m : Int)) ρ1 else Ou.st) = _
  rw [if_pos o]
/-- a comprehension over range(m) -/
theorem xLc_rng {ex e : En → Ou R} {g : D → En → Ou Unit} {t : En → Ou Bool} {vs : List Nat} {ρ ρ1 ρb : En} {m : Nat} {ds : List D} (h : vl ex ρ = .ok (.int (m : Int)) ρ1) (hm : m ≤ 16777216) (hl : lcL g t e vs (rngD 0 (m : Int)) [] (wipE ρ1 vs) = .ok ds ρb) :
    xLc (xRng1 ex) g t e vs ρ = .ok (.o (.L ds)) (unw ρ1 ρb vs) := by
  rw [xLc_ap, xRng1_ok h hm, Ou.bn_ok, hl]
  rfl
theorem atI_nat {α : Type} (xs : List α) (n : Nat) : L2.atI xs (n : Int) = xs[n]? := by
  unfold L2.atI L2.ixN
  rw [if_pos (by omega)]
  by_cases h : (n : Int) < (xs.length : Nat)
  · rw [if_pos h]; simp
  · rw [if_neg h, List.getElem?_eq_none (by omega)]; rfl
theorem rngD_0 (n : Nat) : rngD 0 (n : Int) = (List.range n).map fun (i : Nat) => D.int (i : Int) := by
  unfold rngD
  simp
/-- over a range, the env the same at each turn -/
theorem lcL_rng {g : D → En → Ou Unit} {t : En → Ou Bool} {e : En → Ou R} {vs : List Nat} {ρ : En} (n : Nat) (f : Nat → D) (hz : n ≤ 16777216)
    (h : ∀ i < n, ∃ ρ1 ρ2 ρ3, g (.int (i : Int)) ρ = .ok () ρ1 ∧ t ρ1 = .ok true ρ2 ∧ vl e ρ2 = .ok (f i) ρ3 ∧ wipE ρ3 vs = ρ) : lcL g t e vs (rngD 0 (n : Int)) [] ρ = .ok ((List.range n).map f) ρ := by
  rw [rngD_0]
  have := lcL_map (g := g) (t := t) (e := e) (vs := vs) (ρ := ρ) (fun d => match d with
    | .int i => some (f i.toNat)
    | _ => none) ((List.range n).map fun (i : Nat) => D.int (i : Int)) [] (fun d hd => by
      obtain ⟨i, hi, rfl⟩ := List.mem_map.mp hd
      obtain ⟨ρ1, ρ2, ρ3, a, b, c, d⟩ := h i (List.mem_range.mp hi)
      exact ⟨ρ1, ρ2, a, .inr ⟨f i, ρ3, by simp, b, c, d⟩⟩) (by simpa using hz)
  rw [this]
  congr 1
  rw [List.nil_append, List.filterMap_map]
  have e : ((fun d => match d with
    | D.int i => some (f i.toNat)
    | _ => none) ∘ fun (i : Nat) => D.int (i : Int)) = fun i => some (f i) := by
    funext i
    simp
  rw [e]
  exact congrFun (List.filterMap_eq_map (f := f)) (List.range n)
/-- over a range, by what holds behind i turns -/
theorem lcL_rngI {g : D → En → Ou Unit} {t : En → Ou Bool} {e : En → Ou R} {vs : List Nat} (n : Nat) (I : Nat → List D → En → Prop) (hz : n ≤ 16777216)
    (h : ∀ i acc ρ, i < n → acc.length = i → I i acc ρ → ∃ ρ1 ρ2 y ρ3, g (.int (i : Int)) ρ = .ok () ρ1 ∧ t ρ1 = .ok true ρ2 ∧ vl e ρ2 = .ok y ρ3 ∧ I (i + 1) (acc ++ [y]) (wipE ρ3 vs)) {ρ : En} (h0 : I 0 [] ρ) :
    ∃ out ρ', lcL g t e vs (rngD 0 (n : Int)) [] ρ = .ok out ρ' ∧ out.length = n ∧ I n out ρ' := by
  rw [rngD_0]
  obtain ⟨out, ρ', e1, i, h1, h2, h3, h4⟩ := lcL_inv (g := g) (t := t) (e := e) (vs := vs) (fun rem acc ρ => ∃ i, i ≤ n ∧ rem = ((List.range n).map fun (i : Nat) => D.int (i : Int)).drop i ∧ acc.length = i ∧ I i acc ρ) (fun d ds acc ρ ⟨i, hi, e1, e2, e3⟩ => by
    have hlt : i < n := by
      by_cases z : i < n
      · exact z
      · rw [List.drop_eq_nil_of_le (by simp; omega)] at e1; cases e1
    rw [List.drop_eq_getElem_cons (by simpa using hlt)] at e1
    obtain ⟨rfl, rfl⟩ := List.cons.inj e1
    obtain ⟨ρ1, ρ2, y, ρ3, a, b, c, dd⟩ := h i acc ρ hlt e2 e3
    refine ⟨ρ1, true, ρ2, by simpa using a, b, .inr ⟨rfl, by omega, y, ρ3, c, i + 1, hlt, rfl, by simp [e2], dd⟩⟩) ((List.range n).map fun (i : Nat) => D.int (i : Int)) [] ρ ⟨0, Nat.zero_le _, rfl, rfl, h0⟩
  have hn : i = n := by
    by_cases z : i < n
    · rw [List.drop_eq_getElem_cons (by simpa using z)] at h2; cases h2
    · omega
  subst hn
  exact ⟨out, ρ', e1, h3, h4⟩
/-- a loop over a range, by what holds behind i turns -/
theorem forL_rngI {g : D → En → Ou Unit} {b : En → Ou Fl} (n : Nat) (I : Nat → En → Prop)
    (h : ∀ i ρ, i < n → I i ρ → ∃ ρ1 ρ2, g (.int (i : Int)) ρ = .ok () ρ1 ∧ b ρ1 = .ok .nx ρ2 ∧ I (i + 1) ρ2) {ρ : En} (h0 : I 0 ρ) : ∃ ρ', forL g b (rngD 0 (n : Int)) ρ = .ok .nx ρ' ∧ I n ρ' := by
  rw [rngD_0]
  obtain ⟨ρ', e1, i, h1, h2, h4⟩ := forL_inv (g := g) (b := b) (fun rem ρ => ∃ i, i ≤ n ∧ rem = ((List.range n).map fun (i : Nat) => D.int (i : Int)).drop i ∧ I i ρ) (fun d ds ρ ⟨i, hi, e1, e3⟩ => by
    have hlt : i < n := by
      by_cases z : i < n
      · exact z
      · rw [List.drop_eq_nil_of_le (by simp; omega)] at e1; cases e1
    rw [List.drop_eq_getElem_cons (by simpa using hlt)] at e1
    obtain ⟨rfl, rfl⟩ := List.cons.inj e1
    obtain ⟨ρ1, ρ2, a, b, dd⟩ := h i ρ hlt e3
    exact ⟨ρ1, ρ2, by simpa using a, b, i + 1, hlt, rfl, dd⟩) ((List.range n).map fun (i : Nat) => D.int (i : Int)) ρ ⟨0, Nat.zero_le _, rfl, h0⟩
  have hn : i = n := by
    by_cases z : i < n
    · rw [List.drop_eq_getElem_cons (by simpa using z)] at h2; cases h2
    · omega
  subst hn
  exact ⟨ρ', e1, h4⟩
theorem join_cps : ∀ ts : List Str, (Str.join Str.empty ts).cps.toList = (ts.map fun t => t.cps.toList).flatten
  | [] => rfl
  | [x] => by simp [Str.join]
  | x :: y :: r => by
    have h := join_cps (y :: r)
    have e : (x ++ Str.empty ++ Str.join Str.empty (y :: r)).cps.toList = x.cps.toList ++ (Str.join Str.empty (y :: r)).cps.toList := by
      show ((x.cps ++ #[]) ++ (Str.join Str.empty (y :: r)).cps).toList = _
      simp
    show (x ++ Str.empty ++ Str.join Str.empty (y :: r)).cps.toList = _
    rw [e, h]
    simp
theorem ofString_empty : Str.ofString "" = Str.empty := by decide +kernel
theorem sum_ones : ∀ cs : List Nat, (cs.map fun _ => 1).sum = cs.length
  | [] => rfl
  | c :: cs => by rw [List.map_cons, List.sum_cons, sum_ones cs, List.length_cons]; omega
theorem flat_ones : ∀ cs : List Nat, (cs.map fun c => [c]).flatten = cs
  | [] => rfl
  | c :: cs => by rw [List.map_cons, List.flatten_cons, flat_ones cs]; rfl
/-- joined one by one -/
theorem joinD_cs {cs : List Nat} (h : cs.length ≤ 1000000) : joinD (Str.ofString "") [.lst (cs.map fun c => D.str ⟨#[c]⟩)] = some (.v (.str ⟨cs.toArray⟩)) := by
  have e : (cs.map fun c => D.str ⟨#[c]⟩) = (cs.map fun c => (⟨#[c]⟩ : Str)).map D.str := by simp
  unfold joinD
  rw [e]
  simp only [strsD_map, Option.bind_some]
  have hz : ((cs.map fun c => (⟨#[c]⟩ : Str)).map (·.length)).sum = cs.length := by
    rw [List.map_map]
    have : ((fun x : Str => x.length) ∘ fun c => (⟨#[c]⟩ : Str)) = fun _ => 1 := by funext c; rfl
    rw [this]
    exact sum_ones cs
  rw [hz, ofString_empty]
  rw [if_pos (by show cs.length + _ * 0 ≤ _; omega)]
  congr 3
  unfold Txt.join
  rw [StrLaws.glued_eq_join]
  apply str_ext
  rw [join_cps, List.map_map]
  exact flat_ones cs
theorem app_cps (x y : Str) : (x ++ y).cps.toList = x.cps.toList ++ y.cps.toList := by
  show (x.cps ++ y.cps).toList = _
  simp
theorem app_len (x y : Str) : (x ++ y).length = x.length + y.length := strLen_append x y
theorem cps_len (x : Str) : x.cps.toList.length = x.length := by simp [Str.length]
@[simp] theorem slD_str {z : Str} {lo hi : Option Int} : slD lo hi (.str z) = if z.length ≤ sizeLine then some (.v (.str (L2.cutS z lo hi))) else none := rfl
@[simp] theorem slD_lst {ds : List D} {lo hi : Option Int} : slD lo hi (.lst ds) = some (.o (.L (cutD ds lo hi))) := rfl
@[simp] theorem slD_tup {ds : List D} {lo hi : Option Int} : slD lo hi (.tup ds) = some (.v (.tup (cutD ds lo hi))) := rfl
@[simp] theorem slD_scr {ds : List Int} {lo hi : Option Int} : slD lo hi (.scr ds) = some (.o (.L ((cutD ds lo hi).map .int))) := rfl
theorem cutS_to (z : Str) (n : Nat) (h : n ≤ z.length) : (L2.cutS z none (some (n : Int))).cps.toList = z.cps.toList.take n := by
  unfold L2.cutS
  show ((z.cps.toList.drop (HT.sIx z.length 0 none)).take (HT.sIx z.length z.length (some (n : Int)) - HT.sIx z.length 0 none)) = _
  rw [HT.sIx_none, HT.sIx_nat, Nat.min_eq_left h]
  simp
theorem cutS_from (z : Str) (n : Nat) (h : n ≤ z.length) : (L2.cutS z (some (n : Int)) none).cps.toList = z.cps.toList.drop n := by
  unfold L2.cutS
  show ((z.cps.toList.drop (HT.sIx z.length 0 (some (n : Int)))).take (HT.sIx z.length z.length none - HT.sIx z.length 0 (some (n : Int)))) = _
  rw [HT.sIx_none, HT.sIx_nat, Nat.min_eq_left h, List.take_of_length_le (by rw [List.length_drop, cps_len]; omega)]
theorem str_len {x : Str} {l : List Nat} (h : x.cps.toList = l) : x.length = l.length := by rw [← cps_len, h]
/-! ### a turn as one reckoning -/
def tnL (g : D → En → Ou Unit) (t : En → Ou Bool) (e : En → Ou R) (vs : List Nat) (d : D) (ρ : En) : Ou (Option D) := (g d ρ).bn fun _ ρ1 => (t ρ1).bn fun c ρ2 => if c then (vl e ρ2).bn fun y ρ3 => .ok (some y) (wipE ρ3 vs) else .ok none (wipE ρ2 vs)
@[simp] theorem tnL_ap {g : D → En → Ou Unit} {t : En → Ou Bool} {e : En → Ou R} {vs : List Nat} {d : D} {ρ : En} : tnL g t e vs d ρ = (g d ρ).bn fun _ ρ1 => (t ρ1).bn fun c ρ2 => if c then (vl e ρ2).bn fun y ρ3 => .ok (some y) (wipE ρ3 vs) else .ok none (wipE ρ2 vs) := rfl
theorem tnL_inv {g : D → En → Ou Unit} {t : En → Ou Bool} {e : En → Ou R} {vs : List Nat} {d : D} {ρ ρ' : En} {o : Option D} (h : tnL g t e vs d ρ = .ok o ρ') :
    ∃ ρ1 c ρ2, g d ρ = .ok () ρ1 ∧ t ρ1 = .ok c ρ2 ∧ ((c = false ∧ o = none ∧ ρ' = wipE ρ2 vs) ∨ (c = true ∧ ∃ y ρ3, vl e ρ2 = .ok y ρ3 ∧ o = some y ∧ ρ' = wipE ρ3 vs)) := by
  unfold tnL at h
  cases e1 : g d ρ with
  | st => rw [e1] at h; cases h
  | er y ρ' => rw [e1] at h; cases h
  | ok u ρ1 =>
    rw [e1, Ou.bn_ok] at h
    cases e2 : t ρ1 with
    | st => rw [e2] at h; cases h
    | er y ρ' => rw [e2] at h; cases h
    | ok c ρ2 =>
      rw [e2, Ou.bn_ok] at h
      refine ⟨ρ1, c, ρ2, rfl, e2, ?_⟩
      cases c with
      | false => rw [if_neg (by decide)] at h; cases h; exact .inl ⟨rfl, rfl, rfl⟩
      | true =>
        rw [if_pos rfl] at h
        cases e3 : vl e ρ2 with
        | st => rw [e3] at h; cases h
        | er y ρ' => rw [e3] at h; cases h
        | ok y ρ3 => rw [e3] at h; cases h; exact .inr ⟨rfl, y, ρ3, rfl, rfl, rfl⟩
theorem lc_map {g : D → En → Ou Unit} {t : En → Ou Bool} {e : En → Ou R} {vs : List Nat} (f : D → Option D) {ρ : En} (ds : List D) (h : ∀ d ∈ ds, tnL g t e vs d ρ = .ok (f d) ρ) (hz : ds.length ≤ 16777216) : lcL g t e vs ds [] ρ = .ok (ds.filterMap f) ρ := by
  have := lcL_map (g := g) (t := t) (e := e) (vs := vs) f (ρ := ρ) ds [] (fun d hd => by
    obtain ⟨ρ1, c, ρ2, a, b, x⟩ := tnL_inv (h d hd)
    rcases x with ⟨rfl, x1, x2⟩ | ⟨rfl, y, ρ3, x1, x2, x3⟩
    · exact ⟨ρ1, ρ2, a, .inl ⟨x1, b, x2.symm⟩⟩
    · exact ⟨ρ1, ρ2, a, .inr ⟨y, ρ3, x2, b, x1, x3.symm⟩⟩) (by simpa using hz)
  rw [this, List.nil_append]
theorem lc_rng {g : D → En → Ou Unit} {t : En → Ou Bool} {e : En → Ou R} {vs : List Nat} {ρ : En} (n : Nat) (f : Nat → D) (hz : n ≤ 16777216) (h : ∀ i < n, tnL g t e vs (.int (i : Int)) ρ = .ok (some (f i)) ρ) : lcL g t e vs (rngD 0 (n : Int)) [] ρ = .ok ((List.range n).map f) ρ :=
  lcL_rng n f hz fun i hi => by
    obtain ⟨ρ1, c, ρ2, a, b, x⟩ := tnL_inv (h i hi)
    rcases x with ⟨rfl, x1, x2⟩ | ⟨rfl, y, ρ3, x1, x2, x3⟩
    · cases x1
    · cases x2; exact ⟨ρ1, ρ2, ρ3, a, b, x1, x3.symm⟩
theorem lc_rngI {g : D → En → Ou Unit} {t : En → Ou Bool} {e : En → Ou R} {vs : List Nat} (n : Nat) (I : Nat → List D → En → Prop) (hz : n ≤ 16777216)
    (h : ∀ i acc ρ, i < n → acc.length = i → I i acc ρ → ∃ y ρ', tnL g t e vs (.int (i : Int)) ρ = .ok (some y) ρ' ∧ I (i + 1) (acc ++ [y]) ρ') {ρ : En} (h0 : I 0 [] ρ) :
    ∃ out ρ', lcL g t e vs (rngD 0 (n : Int)) [] ρ = .ok out ρ' ∧ out.length = n ∧ I n out ρ' :=
  lcL_rngI n I hz (fun i acc ρ hi ha hI => by
    obtain ⟨y, ρ', e1, e2⟩ := h i acc ρ hi ha hI
    obtain ⟨ρ1, c, ρ2, a, b, x⟩ := tnL_inv e1
    rcases x with ⟨rfl, x1, x2⟩ | ⟨rfl, y, ρ3, x1, x2, x3⟩
    · cases x1
    · cases x2; subst x3; exact ⟨ρ1, ρ2, y, ρ3, a, b, x1, e2⟩) h0
/-- over any items, by what holds: remaining, found, env -/
theorem lc_inv {g : D → En → Ou Unit} {t : En → Ou Bool} {e : En → Ou R} {vs : List Nat} (I : List D → List D → En → Prop)
    (h : ∀ d ds acc ρ, I (d :: ds) acc ρ → ∃ o ρ', tnL g t e vs d ρ = .ok o ρ' ∧ acc.length < 16777216 ∧ I ds (acc ++ o.toList) ρ') {ds : List D} {ρ : En} (h0 : I ds [] ρ) : ∃ out ρ', lcL g t e vs ds [] ρ = .ok out ρ' ∧ I [] out ρ' :=
  lcL_inv I (fun d ds acc ρ hI => by
    obtain ⟨o, ρ', e1, e2, e3⟩ := h d ds acc ρ hI
    obtain ⟨ρ1, c, ρ2, a, b, x⟩ := tnL_inv e1
    rcases x with ⟨rfl, x1, x2⟩ | ⟨rfl, y, ρ3, x1, x2, x3⟩
    · subst x1 x2; exact ⟨ρ1, false, ρ2, a, b, .inl ⟨rfl, by simpa using e3⟩⟩
    · subst x2 x3; exact ⟨ρ1, true, ρ2, a, b, .inr ⟨rfl, e2, y, ρ3, x1, by simpa using e3⟩⟩) ds [] ρ h0
def tnF (g : D → En → Ou Unit) (b : En → Ou Fl) (d : D) (ρ : En) : Ou Fl := (g d ρ).bn fun _ ρ1 => b ρ1
@[simp] theorem tnF_ap {g : D → En → Ou Unit} {b : En → Ou Fl} {d : D} {ρ : En} : tnF g b d ρ = (g d ρ).bn fun _ ρ1 => b ρ1 := rfl
theorem tnF_inv {g : D → En → Ou Unit} {b : En → Ou Fl} {d : D} {ρ ρ' : En} {f : Fl} (h : tnF g b d ρ = .ok f ρ') : ∃ ρ1, g d ρ = .ok () ρ1 ∧ b ρ1 = .ok f ρ' := by
  unfold tnF at h
  cases e1 : g d ρ with
  | st => rw [e1] at h; cases h
  | er y ρ' => rw [e1] at h; cases h
  | ok u ρ1 => rw [e1, Ou.bn_ok] at h; exact ⟨ρ1, rfl, h⟩
theorem for_inv {g : D → En → Ou Unit} {b : En → Ou Fl} (I : List D → En → Prop) (h : ∀ d ds ρ, I (d :: ds) ρ → ∃ ρ', tnF g b d ρ = .ok .nx ρ' ∧ I ds ρ') {ds : List D} {ρ : En} (h0 : I ds ρ) : ∃ ρ', forL g b ds ρ = .ok .nx ρ' ∧ I [] ρ' :=
  forL_inv I (fun d ds ρ hI => by
    obtain ⟨ρ', e1, e2⟩ := h d ds ρ hI
    obtain ⟨ρ1, a, b⟩ := tnF_inv e1
    exact ⟨ρ1, ρ', a, b, e2⟩) ds ρ h0
theorem for_rngI {g : D → En → Ou Unit} {b : En → Ou Fl} (n : Nat) (I : Nat → En → Prop) (h : ∀ i ρ, i < n → I i ρ → ∃ ρ', tnF g b (.int (i : Int)) ρ = .ok .nx ρ' ∧ I (i + 1) ρ') {ρ : En} (h0 : I 0 ρ) : ∃ ρ', forL g b (rngD 0 (n : Int)) ρ = .ok .nx ρ' ∧ I n ρ' :=
  forL_rngI n I (fun i ρ hi hI => by
    obtain ⟨ρ', e1, e2⟩ := h i ρ hi hI
    obtain ⟨ρ1, a, b⟩ := tnF_inv e1
    exact ⟨ρ1, ρ', a, b, e2⟩) h0
end Dm
end TxtDm22

section TxtDm23
set_option Elab.async false
set_option linter.all false
set_option maxRecDepth 100000
set_option maxHeartbeats 2000000
/-! Dm23: sets of keys (ints and texts) with the list of their keys; add. -/
namespace Dm
open PySem PySem.Spec PyProof.Rows L2

/-- the key that an entry's value stands for -/
def entK (e : Int × Value) : Key := match e.2 with
  | .int i _ => .inl i
  | .str x _ => .inr x
  | _ => .inl 0
def EntOk (w : World) (e : Int × Value) : Prop := ∃ k, keyIs k e.2 = true ∧ e.1 = keyH w k
theorem entK_of {k : Key} {e : Int × Value} (h : keyIs k e.2 = true) : entK e = k := by
  unfold entK
  rcases keyIs_shape h with ⟨i, t, rfl, q⟩ | ⟨x, t, rfl, q⟩ <;> rw [q]
theorem EntOk.key {w : World} {e : Int × Value} (h : EntOk w e) : keyIs (entK e) e.2 = true := by
  obtain ⟨k, a, _⟩ := h
  rw [entK_of a]; exact a
theorem entOk_scan {w : World} {e : Int × Value} (h : EntOk w e) : e.2.scannable = true := by
  obtain ⟨k, a, _⟩ := h
  rcases keyIs_shape a with ⟨i, t, rfl, q⟩ | ⟨x, t, rfl, q⟩ <;> rw [q] <;> rfl
/-- the set at a: its keys ks, each once, in the order in which they came -/
def SetL (w : World) (h : Heap) (a : Addr) (ks : List Key) : Prop :=
  ∃ o es ep t, h.get? a = some o ∧ o.ExactSet ∧ o.data = .set es ep t ∧ ((∀ e ∈ es.toList, EntOk w e) ∧ (es.toList.map entK).Perm ks ∧ ks.Nodup) ∧
    ks.length < scanBound ∧ t.fits es.size = true ∧ Ris t.place.toList ∧ (w.params.followText "set-order" = true ∨ t.led = true)
instance memK (k : Key) (ks : List Key) : Decidable (k ∈ ks) := @List.instDecidableMemOfLawfulBEq Key instBEqOfDecidableEq inferInstance k ks
/-- the keys when k is added -/
def addK (ks : List Key) (k : Key) : List Key := if k ∈ ks then ks else ks ++ [k]
section
variable {P : Program} {w : World} {A : Around} {E : Value → Shared → Prop} {h h' : Heap} {s : Shared} {a : Addr} {ks : List Key} {k : Key} {v : Value}
theorem SetL.at (R : SetL w h a ks) (m : ∀ o, h.get? a = some o → h'.get? a = some o) : SetL w h' a ks := by
  obtain ⟨o, es, ep, t, ho, r⟩ := R
  exact ⟨o, es, ep, t, m o ho, r⟩
theorem ents_ok {l : List (Int × Value)} (g : ∀ e ∈ l, EntOk w e) : ElemsOf (mixKind P w) l := fun e he => ⟨g e he, entOk_scan (g e he)⟩
theorem ents_mem {l : List (Int × Value)} (g : ∀ e ∈ l, EntOk w e) : k ∈ l.map entK ↔ ∃ e ∈ l, keyIs k e.2 = true := by
  refine ⟨fun m => ?_, fun ⟨e, he, q⟩ => List.mem_map.mpr ⟨e, he, entK_of q⟩⟩
  obtain ⟨e, he, q⟩ := List.mem_map.mp m
  exact ⟨e, he, q ▸ (g e he).key⟩
theorem SetL.fin (R : SetL w h a ks) : ∃ o es ep t, h.get? a = some o ∧ o.ExactSet ∧ o.data = .set es ep t ∧ es.size = ks.length := by
  obtain ⟨o, es, ep, t, ho, hx, hd, ⟨g, pm, nd⟩, _⟩ := R
  exact ⟨o, es, ep, t, ho, hx, hd, by rw [← pm.length_eq, List.length_map, Array.length_toList]⟩
theorem SetL.setOf (R : SetL w h a ks) : h.SetOf (mixKind P w) a (fun j => decide (j ∈ ks)) ks.length := by
  obtain ⟨o, es, ep, t, ho, hx, hd, ⟨g, pm, nd⟩, hb, hf, _⟩ := R
  have hz : es.size = ks.length := by rw [← pm.length_eq, List.length_map, Array.length_toList]
  exact ⟨o, es, ep, t, ho, hx, hd, ents_ok g, fun j => by rw [decide_eq_true_eq, ← pm.mem_iff]; exact ents_mem g, by rw [hz]; exact hb, hf, hz⟩
/-- behind an entry that was laid: stored, and laid anew where the table is too full -/
theorem laid_tail {gv : Bool → Sem Unit} (hg : ∀ (b : Bool) (s1 : Shared) (Q1 : Unit → Shared → Prop), Q1 () s1 → wpAny (model P w) A (gv b) Q1 E s1)
    {o : Obj} {es es1 : Array (Int × Value)} {ep : Nat} {t t2 : SetTable} (ho : s.heap.get? a = some o) (hx : o.ExactSet) (hd : o.data = .set es ep t)
    (c : (∀ e ∈ es1.toList, EntOk w e) ∧ (es1.toList.map entK).Perm ks ∧ ks.Nodup) (hb : ks.length < scanBound) (hf : t2.fits es1.size = true) (hr : Ris t2.place.toList) (hl : w.params.followText "set-order" = true ∨ t2.led = true)
    {dm : Bool} {R : Option Bool → Shared → Prop} (hR : ∀ h', Heap.SameBut a s.heap h' → SetL w h' a ks → R (some true) { s with heap := h' }) :
    wpAny (model P w) A (do
        storeSet a es1 t2
        if (!dm && t2.tooFull) = true then do
            gv (relayAll t2 es1 (SetTable.grown es1.size)).2.2
            storeSet a (relayAll t2 es1 (SetTable.grown es1.size)).1 (relayAll t2 es1 (SetTable.grown es1.size)).2.1
            pure (some true)
          else pure (some true)) R E s := by
  have z1 : es1.size = ks.length := by rw [← c.2.1.length_eq, List.length_map, Array.length_toList]
  refine wpAny_bind (wpAny_storeSet_of ho hd ?_ (fits_of_scanBound (by rw [z1]; exact hb)))
  have ho1 := store_at (es' := es1) (t' := t2) ho hd
  have u1 := Heap.SameBut.update s.heap a (Obj.putSet es1 t2)
  split
  · have pm := relayAll_perm t2 es1 (SetTable.grown es1.size)
    have hf3 := relayAll_fits t2 es1 (SetTable.grown es1.size)
    have hr3 := relayAll_ris t2 es1 (SetTable.grown es1.size)
    have hl3 := relayAll_led t2 es1 (SetTable.grown es1.size)
    generalize relayAll t2 es1 (SetTable.grown es1.size) = Z at pm hf3 hr3 hl3 ⊢
    obtain ⟨es2, t3, gave⟩ := Z
    dsimp only at pm hf3 hr3 hl3 ⊢
    have z2 : es2.size = ks.length := by rw [← z1, ← Array.length_toList, pm.length_eq, Array.length_toList]
    refine wpAny_bind (hg _ _ _ (wpAny_bind (wpAny_storeSet_of ho1 rfl ?_ (fits_of_scanBound (by rw [z2]; exact hb)))))
    refine wpAny_pure (hR _ (u1.trans (Heap.SameBut.update _ a _)) ⟨_, es2, _, t3, store_at (es' := es2) (t' := t3) ho1 rfl, hx, rfl, ⟨fun e he => c.1 e (pm.mem_iff.mp he), (pm.map entK).trans c.2.1, c.2.2⟩, hb, hf3, hr3, ?_⟩)
    rw [hl3]; exact hl
  · exact wpAny_pure (hR _ u1 ⟨_, es1, _, t2, ho1, hx, rfl, c, hb, hf, hr, hl⟩)
theorem addK_in (m : k ∈ ks) : addK ks k = ks := by unfold addK; rw [if_pos m]
theorem addK_out (m : ¬ k ∈ ks) : addK ks k = ks ++ [k] := by unfold addK; rw [if_neg m]
theorem setL_hashed {Q : Bool → Shared → Prop} (hk : keyIs k v = true) (R : SetL w s.heap a ks) (room : ks.length + 1 < scanBound)
    (hQ : ∀ h', Heap.SameBut a s.heap h' → SetL w h' a (addK ks k) → ∀ b, Q b { s with heap := h' }) : wpAny (model P w) A (setAddHashed a v ((mixKind P w).hash k)) Q E s := by
  obtain ⟨o, es, ep, t, ho, hx, hd, c, hb, hf, hr, hl⟩ := id R
  have hsc : v.scannable = true := entOk_scan (w := w) (e := (keyH w k, v)) ⟨k, hk, rfl⟩
  have hz : es.size = ks.length := by rw [← c.2.1.length_eq, List.length_map, Array.length_toList]
  have hbe : es.size < scanBound := by rw [hz]; exact hb
  have hel : ElemsOf (mixKind P w) es.toList := ents_ok c.1
  have mem : k ∈ ks ↔ ∃ e ∈ es.toList, keyIs k e.2 = true := c.2.1.mem_iff.symm.trans (ents_mem c.1)
  unfold setAddHashed setAddHashedIn
  refine wpAny_holding (wpAny_bind (wpAny_setState_of ho hd hf ?_))
  dsimp only
  rw [byScan_of hsc hbe hel, if_pos rfl]
  unfold setAddByScan
  refine wpAny_bind (wpAny_bind (wpAny_rule (wpAny_bind (wpAny_setScan_of (knd := mixKind P w) hk ho hd hf hel ?_))))
  cases hfi : List.findIdx? (fun e => (mixKind P w).is k e.2) es.toList with
  | some j =>
    obtain ⟨hj, pj, _⟩ := List.findIdx?_eq_some_iff_getElem.mp hfi
    have hin : k ∈ ks := mem.mpr ⟨es.toList[j], List.getElem_mem hj, pj⟩
    exact wpAny_pure (wpAny_pure (hQ s.heap (Heap.SameBut.refl a s.heap) (by rw [addK_in hin]; exact R) _))
  | none =>
    have hno : ¬ k ∈ ks := fun z => by
      obtain ⟨e, he, q⟩ := mem.mp z
      have n := List.findIdx?_eq_none_iff.mp hfi e he
      rw [show (mixKind P w).is k e.2 = true from q] at n
      cases n
    have hgw : ∀ (b : Bool) (s1 : Shared) (Q1 : Unit → Shared → Prop), Q1 () s1 → wpAny (model P w) A (match b with | true => rule "set.scan.the-table-gave-way" | false => pure ()) Q1 E s1 := fun b s1 Q1 q => by
      cases b
      · exact wpAny_pure q
      · exact wpAny_rule q
    have pm := layNew_perm t es ((mixKind P w).hash k) v
    have hf1 := layNew_fits t es ((mixKind P w).hash k) v
    have hr1 := layNew_ris t es ((mixKind P w).hash k) v hr
    have hl1 := layNew_led t es ((mixKind P w).hash k) v
    dsimp only
    generalize layNew t es ((mixKind P w).hash k) v = Z at pm hf1 hr1 hl1 ⊢
    obtain ⟨es1, t1, dm, gave⟩ := Z
    dsimp only at pm hf1 hr1 hl1 ⊢
    rw [Array.toList_push] at pm
    have pc : (es1.toList.map entK).Perm (ks ++ [k]) := by
      have e1 := pm.map entK
      rw [List.map_append] at e1
      refine e1.trans ?_
      rw [show [((mixKind P w).hash k, v)].map entK = [k] from by rw [List.map_cons, List.map_nil, entK_of (e := ((mixKind P w).hash k, v)) hk]]
      exact c.2.1.append_right _
    have c1 : (∀ e ∈ es1.toList, EntOk w e) ∧ (es1.toList.map entK).Perm (ks ++ [k]) ∧ (ks ++ [k]).Nodup := ⟨fun e he => by
      rcases List.mem_append.mp (pm.mem_iff.mp he) with z | z
      · exact c.1 e z
      · rw [List.mem_singleton.mp z]; exact ⟨k, hk, rfl⟩, pc, (List.perm_append_singleton k ks).nodup_iff.mpr (List.nodup_cons.mpr ⟨hno, c.2.2⟩)⟩
    have hb1 : (ks ++ [k]).length < scanBound := by rw [List.length_append]; exact room
    have hled : w.params.followText "set-order" = true ∨ t1.led = true := by rw [hl1]; exact hl
    have fin : ∀ h', Heap.SameBut a s.heap h' → SetL w h' a (ks ++ [k]) → ∀ b, Q b { s with heap := h' } := fun h' sb r b => hQ h' sb (by rw [addK_out hno]; exact r) b
    refine wpAny_bind (hgw _ _ _ ?_)
    split
    · refine wpAny_bind ?_
      rw [hashByValue_scannable 8 hsc]
      refine wpAny_pure (laid_tail hgw ho hx hd c1 hb1 ?_ ?_ ?_ fun h' sb r => wpAny_pure (fin h' sb r _))
      · first | (split <;> first | exact hf1 | exact SetTable.fits_plain_off hf1) | exact hf1
      · first | (split <;> exact hr1) | exact hr1
      · first | (split <;> exact hled) | exact hled
    · refine wpAny_bind (wpAny_pure ?_)
      simp only [↓reduceIte]
      exact laid_tail hgw ho hx hd c1 hb1 hf1 hr1 hled fun h' sb r => wpAny_pure (fin h' sb r _)
theorem setL_add {Q : Value → Shared → Prop} (hk : keyIs k v = true) (R : SetL w s.heap a ks) (room : ks.length + 1 < scanBound)
    (hQ : ∀ h', Heap.SameBut a s.heap h' → SetL w h' a (addK ks k) → Q .none { s with heap := h', toks := s.toks + 1 }) : wpAny (model P w) A (call (.builtin "set.add") [.ref a, v]) Q E s := by
  refine wpAny_call_entry F.slot_set_add (R.setOf (P := P)).typeIs F.entry_set_add ?_ (F.args_set_add_2 _ _)
  unfold Builtin.«set.add» Builtin.Frozenset.oneOther
  simp only [List.isEmpty_nil, bind_assoc]
  unfold Builtin.Frozenset.addrOf setAdd
  refine wpAny_bind (wpAny_pure ?_)
  try dsimp only
  refine wpAny_bind (wpAny_pure ?_)
  try dsimp only
  refine wpAny_bind (wpAny_holding (wpAny_bind ((mixKind P w).pyHash hk ?_)))
  exact setL_hashed (s := { s with toks := s.toks + 1 }) hk R room fun h' sb r b => wpAny_pure ⟨_, rfl, hQ h' sb r⟩
theorem setL_fresh (w : World) : SetL w (h.push { cls := .type "set", dict := none, data := .set #[] 0 (.fresh 0 0 (!w.params.followText "set-order")) }) h.objs.size [] := by
  refine ⟨_, #[], 0, _, Heap.get?_push_size _ rfl, ⟨rfl, rfl, rfl⟩, rfl, ⟨fun e he => (by simp at he), List.Perm.refl _, List.nodup_nil⟩, by decide, by rfl, List.Pairwise.nil, ?_⟩
  cases e : w.params.followText "set-order"
  · exact .inr rfl
  · exact .inl rfl
end
/-- the object -/
def SetO' (w : World) (a : Addr) (ks : List Key) : HO := .ext fun h => SetL w h a ks
section
variable {X : Cx} {P : Program} {w : World} {H : Hp} {h : Heap} {s : Shared} {a : Addr} {ks : List Key} {k : Key} {v : Value} {pins : List (Addr × Obj)} {σ : L2.St}
theorem setO'_new (R : SetL w h a ks) : ObjOk P w H h a (SetO' w a ks) := by
  have ⟨o, _, _, _, ho, _⟩ := R
  exact ⟨R, ⟨o, ho⟩, fun h1 h2 p m => SetL.at p m⟩
theorem setO'_get (I : Inv X pins σ H s) (ha : H a = some (SetO' X.w a ks)) : SetL X.w s.heap a ks := (I.hok a _ ha).1
theorem addO'_ok {E : Value → Shared → Prop} {Q : Value → Shared → Prop} (I : Inv X pins σ H s) (ha : H a = some (SetO' X.w a ks)) (room : ks.length + 1 < scanBound) (r : RelV (kV k) v)
    (q : ∀ s', Inv X pins σ (upd H a (SetO' X.w a (addK ks k))) s' → Q .none s') : wpAny (model X.prog X.w) X.A (call (.builtin "set.add") [.ref a, v]) Q E s := by
  refine setL_add (kV_is (P := X.prog) (w := X.w) r) (setO'_get I ha) room fun h' sb new => q _ ?_
  have he : ∃ u, h'.get? a = some u := by
    have ⟨o, _, _, _, ho, _⟩ := new
    exact ⟨o, ho⟩
  exact I.write (e := a) (t' := s.toks + 1) (by rw [ha]; trivial) (.inl rfl) (fun b u hb hu => (sb.2 b hb).trans hu) he (setO'_new new)
end
end Dm
end TxtDm23

section TxtDm24
set_option Elab.async false
set_option linter.all false
set_option maxRecDepth 100000
set_option maxHeartbeats 2000000
/-! Dm24: the set comprehension, over sets of keys. -/
namespace Dm
open PySem PySem.Spec PyProof.Rows L2

section
variable {X : Cx} {elt tg iter : Expr} {ifs : List Expr} {scope : Scope} {own : List (PySem.Str × Nat)} {pos pos' : Pos} {wi : TI} {g : TG} {tt : TT} {te : TE}
/-- the context of the comprehension's block -/
abbrev blkX (X : Cx) (scope : Scope) (s : Shared) (H : Hp) (C : Addr) (cl : List (PySem.Str × Addr)) (fp : List Addr) : Cx := X.blk s H scope (compEnvC scope cl C X.env) fp
/-- {elt for target in iter if ..}: D the new set -/
def tSK (w : World) (wi : TI) (g : TG) (tt : TT) (te : TE) (vs : List Nat) : TE := fun σ H Q => wi σ H fun J H1 => ∀ D, H1 D = none → ∃ W : Nat → Nat → Hp → Prop, (∃ m, W 0 m (upd H1 D (SetO' w D []))) ∧ ∀ i m H, W i m H →
  (J.stop i H ∧ Q (.ref D) H) ∨ (J.go i H ∧ ∃ Nx : Hp → Prop, (∀ H', Nx H' → ∃ m', m' < m ∧ W (i + 1) m' H') ∧ ∀ x H', J.yld i H x H' → g x (wipe σ vs) H' fun σ2 H2 => wipe σ2 vs = wipe σ vs ∧ tt σ2 H2 fun b H3 =>
    if b = true then te σ2 H3 fun y H4 => ∃ (k : Key) (ks : List Key), y = kV k ∧ H4 D = some (SetO' w D ks) ∧ ks.length + 1 < scanBound ∧ Nx (upd H4 D (SetO' w D (addK ks k))) else Nx H3)
theorem sk_core {pins : List (Addr × Obj)} {s : Shared} {σ : L2.St} {H : Hp} {Q : VK} {use : Option (Value → Sem Unit)} {Qf : Value → Shared → Prop}
    (hc : X.calm = true) (hN : X.N.Nodup) (I : Inv X pins σ H s) (hi : PI X tg iter wi) (ok : BlkOk X.N X.env.scope scope own)
    (hg : ∀ s H C cl fp, PG (blkX X scope s H C cl fp) tg g) (ht : ∀ s H C cl fp, PTs (blkX X scope s H C cl fp) ifs tt) (he : ∀ s H C cl fp, PE (blkX X scope s H C cl fp) elt te) (hs : ∀ x, foldedSetIterable iter X.env x = pure x)
    (h : tSK X.w wi g tt te (own.map (·.2)) σ H Q)
    (back : ∀ D C s' m H', Inv X pins σ H' s' → Q (.ref D) H' → s'.heap.Ns C m → FpOk X pins H' C → compPost (model X.prog X.w) X.A X.xe use Qf (.ref D) C (.ok .next) s') :
    wpAny (model X.prog X.w) X.A (comprehension (.SetComp elt [⟨tg, iter, ifs, 0⟩] scope pos) scope X.env pos' (newSet (.type "set")) false (eval iter X.env) use) Qf X.xe s := by
  have free : ∀ y ∈ scope.names, y.2 = .free → ∃ c, X.env.cells.lookup y.1 = some c := fun y hy e => (ok.free y hy e).elim (fun k => I.ok.has _ (.inl k)) (fun k => I.ok.has _ (.inr k))
  refine wpAny_comprehension_free (use := use) rfl hs (closure_ok free) ok.kind (fun y hy e => by rw [ok.uniq y hy, e]) (thn (hi.run pins s σ H _ I h) fun xv s1 hx => thn hx fun itv s2 h2 => ?_)
  obtain ⟨it, fp, tn, J, H2, rfl, I2, T, st2, f2, q⟩ := h2
  refine PpSet.newSet_ok (newEnv_comp ?_)
  generalize hD : s2.heap.objs.size = D
  obtain ⟨W, ⟨m0, w0⟩, turn⟩ := q D (I2.hok.fresh (Nat.le_of_eq hD))
  generalize hp : s2.heap.push { cls := .type "set", dict := none, data := .set #[] 0 (.fresh 0 0 (!X.w.params.followText "set-order")) } = hp3
  generalize hs3 : ({ s2 with heap := hp3 } : Shared) = s3
  have keep2 : ∀ b o, s2.heap.get? b = some o → hp3.get? b = some o := fun b o e => hp ▸ Heap.get?_push_of_some _ e
  have size2 : hp3.objs.size = s2.heap.objs.size + 1 := by rw [← hp, Heap.size_push]
  have h3 : s3.heap = hp3 := by rw [← hs3]
  generalize hH3 : upd H2 D (SetO' X.w D []) = H3 at w0
  have I3 : Inv X pins σ H3 s3 := by
    rw [← hs3, ← hH3]
    refine I2.laid (t' := s2.toks) keep2 (Nat.le_of_eq hD) ?_
    rw [← hD, ← hp]
    exact setO'_new (setL_fresh X.w)
  have f3 : ∀ b ∈ fp, FpOk X pins H3 b ∧ b < s3.heap.objs.size := fun b hb => by
    obtain ⟨o, e, _⟩ := T.obj _ _ st2 b hb
    have lt := Heap.lt_size e
    refine ⟨⟨?_, (f2 b hb).2⟩, by rw [h3, size2]; exact Nat.lt_succ_of_lt lt⟩
    rw [← hH3, upd_ne (by rw [← hD]; exact Nat.ne_of_lt lt)]
    exact (f2 b hb).1
  have st3 : tn 0 s3.heap := T.keep _ _ _ st2 fun b _ o e => by rw [h3]; exact keep2 b o e
  have I4 := block_start I3 ok hN f3
  have pg := hg s3 H3 s3.heap.objs.size (cellsFrom (s3.heap.objs.size + 1) scope.names (cloFrom X.env.cells scope.names [])) fp
  have pt := ht s3 H3 s3.heap.objs.size (cellsFrom (s3.heap.objs.size + 1) scope.names (cloFrom X.env.cells scope.names [])) fp
  have pe := he s3 H3 s3.heap.objs.size (cellsFrom (s3.heap.objs.size + 1) scope.names (cloFrom X.env.cells scope.names [])) fp
  unfold blkX at pg pt pe
  have nf : ∀ b ∈ fp, H3 b = none := fun b hb => (f3 b hb).1.1
  show codeAny _ _ (.compStart (.SetComp elt [⟨tg, iter, ifs, 0⟩] scope pos) 0 (.ref it) (.ref D) (compEnvC scope (cellsFrom (s3.heap.objs.size + 1) scope.names (cloFrom X.env.cells scope.names [])) s3.heap.objs.size X.env))
    (compPost (model X.prog X.w) X.A X.xe use Qf (.ref D) s3.heap.objs.size) { s3 with heap := pushCells (s3.heap.push { cls := .type "dict", data := .dict #[] }) scope.names }
  generalize hce : compEnvC scope (cellsFrom (s3.heap.objs.size + 1) scope.names (cloFrom X.env.cells scope.names [])) s3.heap.objs.size X.env = ce at I4 pg pt pe ⊢
  have cL : ce.locals = s3.heap.objs.size := by subst hce; rfl
  generalize hs4 : ({ s3 with heap := pushCells (s3.heap.push { cls := .type "dict", data := .dict #[] }) scope.names } : Shared) = s4 at I4 ⊢
  have st4 : tn 0 s4.heap := T.keep _ _ _ st3 fun b _ o e => by rw [← hs4]; exact pushCells_keeps _ _ _ _ (Heap.get?_push_of_some _ e)
  have stat : ∀ {σ' : L2.St} {H' : Hp} {s' : Shared}, Inv (X.blk s3 H3 scope ce fp) [] σ' H' s' → (∀ b ∈ fp, H' b = none) → ∀ b ∈ fp, FpOk (X.blk s3 H3 scope ce fp) [] H' b := fun {σ' H' s'} J' hn b hb =>
    ⟨hn b hb, (J'.ok.exf b hb).1, J'.ok.exfs b hb, .inl hb, fun x c e => (J'.ok.exf b hb).2 x c e, fun p hp => absurd (show p ∈ ([] : List (Addr × Obj)) ++ [] from hp) (by simp)⟩
  have loop : codeAny (model X.prog X.w) X.A (.compLoop (.SetComp elt [⟨tg, iter, ifs, 0⟩] scope pos) 0 (.ref it) (.ref D) ce) (compPost (model X.prog X.w) X.A X.xe use Qf (.ref D) s3.heap.objs.size) s4 := by
    refine PpSet.compLoopS_any (fun n s' => ∃ i H', Inv (X.blk s3 H3 scope ce fp) [] (wipe σ (own.map (·.2))) H' s' ∧ tn i s'.heap ∧ (∀ b ∈ fp, H' b = none) ∧ W i n H') ?_ m0 ⟨0, H3, I4, st4, nf, w0⟩
    rintro n s5 ⟨i, H5, I5, st5, n5, w5⟩
    rcases turn i n H5 w5 with ⟨stop, qq⟩ | ⟨go, Nx, hNx, step⟩
    · refine thnF (T.done (X.blk s3 H3 scope ce fp) rfl rfl rfl hc i [] s5 _ H5 (fun _ _ => False) I5 (stat I5 n5) st5 stop) fun r s6 ⟨hr, I6⟩ => ?_
      subst hr
      have I7 : Inv X pins σ H5 s6 := I3.call' (ch := fp) I6.os I6.base I6.hok I6.bare fun b hb => ⟨(f3 b hb).1.2.2.2.1, (f3 b hb).1.2.1, (f3 b hb).1.2.2.2.2.1, (f3 b hb).1.2.2.2.2.2⟩
      have nC : H5 s3.heap.objs.size = none := by rw [← cL]; exact I6.free
      obtain ⟨m, hn, _⟩ := I6.loc
      have hn : s6.heap.Ns s3.heap.objs.size m := by rw [← cL]; exact hn
      exact back D s3.heap.objs.size s6 m H5 I7 qq hn (I3.fpOk (Nat.le_refl _) nC)
    · refine thnF (T.item (X.blk s3 H3 scope ce fp) rfl rfl rfl hc i [] s5 _ H5 (fun _ _ => False) I5 (stat I5 n5) st5 go) fun r s6 ⟨u, hr, h6⟩ => ?_
      subst hr
      refine thnF h6 fun _ s7 ⟨x, H7, I7, r7, y7, st7, n7⟩ => ?_
      refine thnF (pg.run _ s7 _ H7 x u _ (I7.pinned (stat I7 n7) (T.obj _ _ st7)) r7 (step x H7 y7)) fun _ s8 ⟨σ8, H8, I8, hw8, q8⟩ => ?_
      refine thnF (pt.run _ s8 σ8 H8 _ I8 q8) fun b s9 ⟨H9, I9, q9⟩ => ?_
      have next : ∀ {s' : Shared} {H' : Hp}, Inv (X.blk s3 H3 scope ce fp) ([] ++ pinsAt fp s7.heap) σ8 H' s' → Nx H' → ∃ m, m < n ∧ ∃ i H', Inv (X.blk s3 H3 scope ce fp) [] (wipe σ (own.map (·.2))) H' s' ∧ tn i s'.heap ∧ (∀ b ∈ fp, H' b = none) ∧ W i m H' := fun {s' H'} J' nx => by
        obtain ⟨m', hm, w'⟩ := hNx H' nx
        have held : ∀ b ∈ fp, ∀ o, s7.heap.get? b = some o → s'.heap.get? b = some o ∧ H' b = none := fun b hb o e =>
          let z := J'.pin (b, o) (List.mem_append_right _ (List.mem_append_right _ (mem_pinsAt hb e)))
          ⟨z.1, z.2.1⟩
        have hl : (wipe σ (own.map (·.2))).length = σ8.length := by rw [← hw8, wipe_length]
        refine ⟨m', hm, i + 1, H', (J'.unpinned (pins := [])).weak hl (fun j v e => ?_), T.keep _ _ _ st7 fun b hb o e => (held b hb o e).1, fun b hb => ?_, w'⟩
        · rw [← hw8] at e
          exact (wipe_some e).1
        · obtain ⟨o, e, _⟩ := T.obj _ _ st7 b hb
          exact (held b hb o e).2
      cases b with
      | false => exact next I9 q9
      | true =>
        refine thnF (pe.run _ s9 σ8 H9 _ I9 q9) fun z s10 ⟨yv, H10, I10, r10, k, ks, ey, hD10, room, nx⟩ => ?_
        subst ey
        exact addO'_ok (X := X.blk s3 H3 scope ce fp) I10 hD10 room r10 fun s11 I11 => next I11 nx
  exact PpSet.codeAny_compStart_set loop (T.self X.A 0 _ _ _ st4 loop)
theorem pe_sk (hc : X.calm = true) (hN : X.N.Nodup) (hi : PI X tg iter wi) (ok : BlkOk X.N X.env.scope scope own)
    (hg : ∀ s H C cl fp, PG (blkX X scope s H C cl fp) tg g) (ht : ∀ s H C cl fp, PTs (blkX X scope s H C cl fp) ifs tt) (he : ∀ s H C cl fp, PE (blkX X scope s H C cl fp) elt te) (hs : ∀ x, foldedSetIterable iter X.env x = pure x := by intro _; rfl) :
    PE X (.SetComp elt [⟨tg, iter, ifs, 0⟩] scope pos) (tSK X.w wi g tt te (own.map (·.2))) := by
  refine ⟨fun pins s σ H Q I h => ?_⟩
  rw [PpSet.eval_SetComp]
  refine sk_core hc hN I hi ok hg ht he hs h fun D C s' m H' J q hn f => ⟨m, hn, fun h2 sb => ⟨.ref D, H', ?_, rfl, q⟩⟩
  exact J.turned (t' := s'.toks) (fun b o hb e => (sb.2 b hb).trans e) f.1 f.2.1 f.2.2.2.1 f.2.2.2.2.1 f.2.2.2.2.2
end
end Dm
end TxtDm24

section TxtDm25
set_option Elab.async false
set_option linter.all false
set_option maxRecDepth 100000
/-! Dm25: comprehensions that gather into any object (sets, dicts). -/
namespace Dm
open PySem PySem.Spec PyProof.Rows L2

/-- a block's values: one, or more -/
def bOne (e : En → Ou R) : En → Ou (List D) := fun ρ => (vl e ρ).bn fun d ρ1 => .ok [d] ρ1
def bTwo (e f : En → Ou R) : En → Ou (List D) := fun ρ => (vl e ρ).bn fun d ρ1 => (vl f ρ1).bn fun d2 ρ2 => .ok [d, d2] ρ2
/-- gathered: ad adds a block's values -/
def acL {β : Type} (ad : β → List D → Option β) (g : D → En → Ou Unit) (t : En → Ou Bool) (e : En → Ou (List D)) (vs : List Nat) : List D → β → En → Ou β
  | [], acc, ρ => .ok acc ρ
  | d :: ds, acc, ρ => (g d ρ).bn fun _ ρ1 => (t ρ1).bn fun c ρ2 => if c then (e ρ2).bn fun ys ρ3 => (match ad acc ys with
      | some acc' => acL ad g t e vs ds acc' (wipE ρ3 vs)
      | none => .st) else acL ad g t e vs ds acc (wipE ρ2 vs)
def xAc {β : Type} (ini : β) (ad : β → List D → Option β) (xi : En → Ou (List D)) (g : D → En → Ou Unit) (t : En → Ou Bool) (e : En → Ou (List D)) (vs : List Nat) : En → Ou β := fun ρ => (xi ρ).bn fun items ρ1 => (noEr (acL ad g t e vs items ini (wipE ρ1 vs))).bn fun b ρb => .ok b (unw ρ1 ρb vs)
/-- the reading: ini the new object at D, stp what a block's values do to it -/
def tAc (ini : Addr → HO) (stp : Addr → List V → Hp → (Hp → Prop) → Prop) (wi : TI) (g : TG) (tt : TT) (tb : TA) (vs : List Nat) : TE := fun σ H Q => wi σ H fun J H1 => ∀ D, H1 D = none → ∃ W : Nat → Nat → Hp → Prop, (∃ m, W 0 m (upd H1 D (ini D))) ∧ ∀ i m H, W i m H →
  (J.stop i H ∧ Q (.ref D) H) ∨ (J.go i H ∧ ∃ Nx : Hp → Prop, (∀ H', Nx H' → ∃ m', m' < m ∧ W (i + 1) m' H') ∧ ∀ x H', J.yld i H x H' → g x (wipe σ vs) H' fun σ2 H2 => wipe σ2 vs = wipe σ vs ∧ tt σ2 H2 fun b H3 =>
    if b = true then tb σ2 H3 fun ys H4 => stp D ys H4 Nx else Nx H3)
section
variable {K : PySem.W.Frag} {cl : Str → Option Addr} {W : WX}
def PstB (K : PySem.W.Frag) (cl : Str → Option Addr) (W : WX) (Q : List V → Hp → Prop) (σ : L2.St) (ρ : En) (F H : Hp) : Ou (List D) → Prop
  | .ok ds ρ' => ∀ xs F' H', Sta K cl F' σ H' ρ' → Stp (fun _ => true) σ ρ F H σ ρ' F' H' → RepL K cl F' xs ds → Q xs H'
  | .er e ρ' => ∀ c d F' H', Sta K cl F' σ H' ρ' → Stp (fun _ => true) σ ρ F H σ ρ' F' H' → ErrOk K cl F' e c d → W c d σ H'
  | .st => False
def EvB (K : PySem.W.Frag) (cl : Str → Option Addr) (W : WX) (tb : TA) (ex : En → Ou (List D)) : Prop := ∀ F σ H ρ Q, Sta K cl F σ H ρ → PstB K cl W Q σ ρ F H (ex ρ) → tb σ H Q
theorem ev_bOne {te : TE} {ex : En → Ou R} (he : EvE K cl W te ex) : EvB K cl W (fun σ H Q => te σ H fun y H1 => Q [y] H1) (bOne ex) := by
  intro F σ H ρ Q S q
  refine he.val.then (P := PstB K cl W Q σ ρ F H) S q (fun z => z) (fun _ _ z => z) fun d ρ1 q x F1 H1 S1 s1 rel => q [x] F1 H1 S1 s1 (RepL.one rel)
theorem ev_bTwo {te tf : TE} {ex fx : En → Ou R} (he : EvE K cl W te ex) (hf : EvE K cl W tf fx) : EvB K cl W (fun σ H Q => te σ H fun y H1 => tf σ H1 fun z H2 => Q [y, z] H2) (bTwo ex fx) := by
  intro F σ H ρ Q S q
  refine he.val.then (P := PstB K cl W Q σ ρ F H) S q (fun z => z) (fun _ _ z => z) fun d ρ1 q x F1 H1 S1 s1 rel => ?_
  refine hf.val F1 σ H1 ρ1 _ S1 ?_
  cases e : vl fx ρ1 with
  | st => rw [e] at q; exact q
  | er y ρ' => rw [e] at q; exact fun c d F' H' S' s' er => q c d F' H' S' (s1.trans s') er
  | ok d2 ρ2 => rw [e] at q; exact fun z F2 H2 S2 s2 r => q [x, z] F2 H2 S2 (s1.trans s2) (RepL.cons (rel.mono s2.mono) (RepL.one r))
end
/-- an object that gathers -/
structure Gath (K : PySem.W.Frag) (cl : Str → Option Addr) (α β : Type) (ob : Addr → α → HO) (rel : Hp → α → β → Prop) (a0 : α) (b0 : β) (ad : β → List D → Option β) (stp : Addr → List V → Hp → (Hp → Prop) → Prop) : Prop where
  zero : ∀ F, rel F a0 b0
  ns : ∀ D a, ¬ Shr (ob D a)
  mono : ∀ F F' a b, (∀ p o, F p = some o → F' p = some o) → rel F a b → rel F' a b
  step : ∀ D F H a b ys ds b' Nx, H D = some (ob D a) → rel F a b → RepL K cl F ys ds → ad b ds = some b' → (∀ a', rel F a' b' → Nx (upd H D (ob D a'))) → stp D ys H Nx
section
variable {K : PySem.W.Frag} {cl : Str → Option Addr} {W : WX} {vs : List Nat} {α β : Type} {ob : Addr → α → HO} {rel : Hp → α → β → Prop} {a0 : α} {b0 : β} {ad : β → List D → Option β} {stp : Addr → List V → Hp → (Hp → Prop) → Prop}
def PstAc (K : PySem.W.Frag) (cl : Str → Option Addr) (ob : Addr → α → HO) (rel : Hp → α → β → Prop) (W : WX) (Q : VK) (σ : L2.St) (ρ : En) (F H : Hp) : Ou β → Prop
  | .ok b ρ' => ∀ D a F' H', Sta K cl F' σ H' ρ' → Stp (fun _ => true) σ ρ F H σ ρ' F' H' → F' D = none → H' D = some (ob D a) → rel F' a b → ¬ OwnS σ ρ' D → H D = none → Q (.ref D) H'
  | .er e ρ' => ∀ c d F' H', Sta K cl F' σ H' ρ' → Stp (fun _ => true) σ ρ F H σ ρ' F' H' → ErrOk K cl F' e c d → W c d σ H'
  | .st => False
theorem ev_ac (G : Gath K cl α β ob rel a0 b0 ad stp) {wi : TI} {g : TG} {tt : TT} {tb : TA} {xi : En → Ou (List D)} {gx : D → En → Ou Unit} {tx : En → Ou Bool} {ex : En → Ou (List D)} (hi : EvI K cl W wi xi) (hg : EvG K cl (pnB vs) W0 g gx) (ht : EvT K cl W0 tt tx) (he : EvB K cl W0 tb ex)
    {F : Hp} {σ : L2.St} {H : Hp} {ρ : En} {Q : VK} (S : Sta K cl F σ H ρ) (q : PstAc K cl ob rel W Q σ ρ F H (xAc b0 ad xi gx tx ex vs ρ)) : tAc (fun D => ob D a0) stp wi g tt tb vs σ H Q := by
  refine hi F σ H ρ _ S ?_
  unfold xAc at q
  cases e : xi ρ with
  | st => rw [e] at q; exact q
  | er y ρ' => rw [e] at q; exact q
  | ok items ρ1 =>
    rw [e, Ou.bn_ok] at q
    intro J F1 H1 S1 s1 it Dl hD
    -- what is known behind i turns
    refine ⟨fun i m H2 => m = items.length - i ∧ i ≤ items.length ∧ ∃ F2 ρ2 acc ds, (∀ a o, F1 a = some o → F2 a = some o) ∧ Sta K cl F2 (L2.wipe σ vs) H2 (wipE ρ2 vs) ∧ Stp (fun _ => true) (L2.wipe σ vs) (wipE ρ1 vs) F1 H1 (L2.wipe σ vs) (wipE ρ2 vs) F2 H2 ∧
        H2 Dl = some (ob Dl acc) ∧ F2 Dl = none ∧ rel F2 acc ds ∧ ¬ OwnS (L2.wipe σ vs) (wipE ρ2 vs) Dl ∧ PstAc K cl ob rel W Q σ ρ F H ((noEr (acL ad gx tx ex vs (items.drop i) ds (wipE ρ2 vs))).bn fun b ρb => .ok b (unw ρ1 ρb vs)), ⟨items.length, rfl, Nat.zero_le _, ?_⟩, ?_⟩
    · have g : Grow F1 H1 F1 (upd H1 Dl (ob Dl a0)) := Grow.new S1.sub hD
      have Sw := S1.wipe vs
      refine ⟨F1, ρ1, a0, b0, fun _ _ h => h, g.sta Sw, g.stp, upd_same, sub_none S1.sub hD, G.zero F1, fun z => ?_, q⟩
      obtain ⟨i, c, a1, a2, a3⟩ := z
      obtain ⟨p, o, e1, e2, e3, e4⟩ := Sw.own i c a1 a2
      rw [a3] at e1; cases e1
      rw [hD] at e3; cases e3
    · rintro i m H2 ⟨rfl, hi', F2, ρ2, acc, ds, m2, S2, s2, hDl, fDl, rl, nD, q2⟩
      by_cases hlt : i < items.length
      · refine .inr ?_
        have ei : items[i]? = some items[i] := by simp [hlt]
        obtain ⟨g0, gy⟩ := it.go F2 H2 i items[i] m2 (stands (S1.wipe vs) s2) S2.sub ei
        refine ⟨g0, fun H2 => (i + 1 ≤ items.length ∧ ∃ F2 ρ2 acc ds, (∀ a o, F1 a = some o → F2 a = some o) ∧ Sta K cl F2 (L2.wipe σ vs) H2 (wipE ρ2 vs) ∧ Stp (fun _ => true) (L2.wipe σ vs) (wipE ρ1 vs) F1 H1 (L2.wipe σ vs) (wipE ρ2 vs) F2 H2 ∧
          H2 Dl = some (ob Dl acc) ∧ F2 Dl = none ∧ rel F2 acc ds ∧ ¬ OwnS (L2.wipe σ vs) (wipE ρ2 vs) Dl ∧ PstAc K cl ob rel W Q σ ρ F H ((noEr (acL ad gx tx ex vs (items.drop (i + 1)) ds (wipE ρ2 vs))).bn fun b ρb => .ok b (unw ρ1 ρb vs))), fun H' n => ⟨items.length - (i + 1), by omega, rfl, n.1, n.2⟩, fun x H' y => ?_⟩
        obtain ⟨F3, gr, rx⟩ := gy x H' y
        have S3 := gr.sta S2
        have s3 : Stp (pnB vs) (L2.wipe σ vs) (wipE ρ2 vs) F2 H2 (L2.wipe σ vs) (wipE ρ2 vs) F3 H' := gr.stp (pn := pnB vs)
        have ed : items.drop i = items[i] :: items.drop (i + 1) := by rw [List.drop_eq_getElem_cons hlt]
        rw [ed] at q2
        unfold acL at q2
        refine hg F3 (L2.wipe σ vs) H' (wipE ρ2 vs) x items[i] _ S3 rx ?_
        cases e3 : gx items[i] (wipE ρ2 vs) with
        | st => rw [e3] at q2; exact q2
        | er y' ρ' => rw [e3] at q2; exact q2.elim
        | ok u ρ3 =>
          rw [e3, Ou.bn_ok] at q2
          intro σ4 F4 H4 S4 s4
          have s34 := s3.trans s4
          -- the block's slots but its own are as they were
          have wq : L2.wipe σ4 vs = L2.wipe σ vs := by
            have := wipe_eq (σ1 := σ4) (σ := L2.wipe σ vs) (vs := vs) s4.len fun i hi => s4.pin i (by unfold pnB; simp [hi])
            rw [this, wipe_wipe]
          refine ⟨by rw [wq], ?_⟩
          -- from the block's slots back to the outer's
          have back : ∀ {F5 : Hp} {H5 : Hp} {ρ5 : En}, Sta K cl F5 σ4 H5 ρ5 → Stp (pnB vs) (L2.wipe σ vs) (wipE ρ2 vs) F2 H2 σ4 ρ5 F5 H5 → Sta K cl F5 (L2.wipe σ vs) H5 (wipE ρ5 vs) ∧ Stp (fun _ => true) (L2.wipe σ vs) (wipE ρ1 vs) F1 H1 (L2.wipe σ vs) (wipE ρ5 vs) F5 H5 ∧
              H5 Dl = some (ob Dl acc) ∧ F5 Dl = none ∧ ¬ OwnS (L2.wipe σ vs) (wipE ρ5 vs) Dl ∧ ¬ OwnS σ4 ρ5 Dl := fun {F5 H5 ρ5} S5 s5 => by
            have S6 := S5.wipe vs
            rw [wq] at S6
            have low : ∀ p, OwnS (L2.wipe σ vs) (wipE ρ5 vs) p → OwnS σ4 ρ5 p := fun p z => by
              rw [← wq] at z
              exact (ownS_wipe z).1
            have nd : ¬ OwnS σ4 ρ5 Dl := fun z => by
              rcases s5.own Dl z with y | y
              · exact nD y
              · rw [hDl] at y; cases y
            refine ⟨S6, s2.trans ⟨s5.mono, s5.keep, s5.free, fun p z => s5.own p (low p z), fun _ _ => rfl, s5.thr, rfl⟩, s5.keep Dl _ hDl nD, (s5.free Dl _ hDl nD fDl).resolve_right (G.ns _ _), fun z => nd (low Dl z), nd⟩
          have mm : ∀ {F5 : Hp} {H5 : Hp} {ρ5 : En}, Stp (pnB vs) (L2.wipe σ vs) (wipE ρ2 vs) F2 H2 σ4 ρ5 F5 H5 → ∀ a o, F1 a = some o → F5 a = some o := fun s5 a o h => s5.mono a o (m2 a o h)
          have idm : ∀ (ρ : En), wipE (wipE ρ vs) vs = wipE ρ vs := fun ρ => by
            have aux : ∀ (ws us : List Nat), (∀ w ∈ ws, w ∈ us) → wipE (wipE ρ us) ws = wipE ρ us := by
              intro ws
              induction ws with
              | nil => intro us _; rfl
              | cons w ws ih =>
                intro us hw
                show (wipE (wipE ρ us) ws).set w none = _
                rw [ih us fun z hz => hw z (List.mem_cons_of_mem _ hz)]
                have hmem : w ∈ us := hw w List.mem_cons_self
                apply List.ext_getElem?
                intro j
                by_cases hj : w = j
                · subst hj
                  by_cases hb : w < (wipE ρ us).length
                  · rw [List.getElem?_set_self hb]
                    cases q : (wipE ρ us)[w]? with
                    | none => rw [List.getElem?_eq_none_iff] at q; omega
                    | some o =>
                      cases o with
                      | none => rfl
                      | some c => exact absurd hmem (wipE_some q).2
                  · rw [List.getElem?_eq_none (by simpa using hb), List.getElem?_eq_none (by omega)]
                · rw [List.getElem?_set_ne hj]
            exact aux vs vs fun _ h => h
          refine ht F4 σ4 H4 ρ3 _ S4 ?_
          cases e4 : tx ρ3 with
          | st => rw [e4] at q2; exact q2.elim
          | er y' ρ' => rw [e4] at q2; exact q2.elim
          | ok c ρ4 =>
            rw [e4, Ou.bn_ok] at q2
            intro F5 H5 S5 s5
            have s35 := s34.trans (s5.wk (pn := pnB vs))
            cases c with
            | false =>
              rw [if_neg (by decide)] at q2
              show _ ∧ _
              obtain ⟨b1, b2, b3, b4, b5, _⟩ := back S5 s35
              exact ⟨hlt, F5, ρ4, acc, ds, mm s35, b1, b2, b3, b4, G.mono _ _ _ _ s35.mono rl, b5, q2⟩
            | true =>
              rw [if_pos rfl] at q2
              rw [if_pos rfl]
              refine he F5 σ4 H5 ρ4 _ S5 ?_
              cases e5 : ex ρ4 with
              | st => rw [e5] at q2; exact q2.elim
              | er y' ρ' => rw [e5] at q2; exact q2.elim
              | ok yd ρ5 =>
                rw [e5, Ou.bn_ok] at q2
                intro z F6 H6 S6 s6 rz
                have s36 := s35.trans (s6.wk (pn := pnB vs))
                obtain ⟨b1, b2, b3, b4, b5, b6⟩ := back S6 s36
                cases ea : ad ds yd with
                | none => rw [ea] at q2; exact q2.elim
                | some ds' =>
                  rw [ea] at q2
                  refine G.step Dl F6 H6 acc ds z yd ds' _ b3 (G.mono _ _ _ _ s36.mono rl) rz ea fun a' ra => ⟨hlt, F6, ρ5, a', ds', mm s36, ?_, ?_, upd_same, b4, ra, b5, q2⟩
                  · refine ⟨fun a o h => ?_, b1.len, b1.val, fun i c h hc => ?_, b1.sep⟩
                    · have na : a ≠ Dl := fun z => by rw [z, b4] at h; cases h
                      rw [upd_ne na]
                      exact b1.sub a o h
                    · obtain ⟨p, o, e1, e2, e3, e4⟩ := b1.own i c h hc
                      have np : p ≠ Dl := fun z => b5 ⟨i, c, h, hc, by rw [← z]; exact e1⟩
                      exact ⟨p, o, e1, e2, by rw [upd_ne np]; exact e3, e4⟩
                  · have nk : ∀ p o, H1 p = some o → p ≠ Dl := fun p o h z => by rw [z, hD] at h; cases h
                    refine ⟨b2.mono, fun p o h n => by rw [upd_ne (nk p o h)]; exact b2.keep p o h n, b2.free, b2.own, fun _ _ => rfl, fun p o h => ?_, rfl⟩
                    obtain ⟨o', e'⟩ := b2.thr p o h
                    exact ⟨o', by rw [upd_ne (nk p o h)]; exact e'⟩
      · have ei : i = items.length := by omega
        subst ei
        refine .inl ⟨it.stop F2 H2 m2 (stands (S1.wipe vs) s2) S2.sub, ?_⟩
        rw [List.drop_length] at q2
        have q3 : PstAc K cl ob rel W Q σ ρ F H (.ok ds (unw ρ1 (wipE ρ2 vs) vs)) := q2
        have hH : H Dl = none := by
          cases e0 : H Dl with
          | none => rfl
          | some o0 =>
            obtain ⟨o', e'⟩ := s1.thr Dl o0 e0
            rw [hD] at e'; cases e'
        refine q3 Dl acc F2 H2 (S1.unwipe S2 s2) (s1.trans (s2.unwipe (ρ1 := ρ1))) fDl hDl rl (fun z => ?_) hH
        rcases ownS_unw z with y | y
        · obtain ⟨i, c, a1, a2, a3⟩ := y
          obtain ⟨p, o, e1, e2, e3, e4⟩ := S1.own i c a1 a2
          rw [a3] at e1; cases e1
          rw [hD] at e3; cases e3
        · exact nD y
end
end Dm
end TxtDm25

section TxtDm26
set_option Elab.async false
set_option linter.all false
set_option maxRecDepth 100000
set_option maxHeartbeats 2000000
/-! Dm26: set(xs) of keys. -/
namespace Dm
open PySem PySem.Spec PyProof.Rows L2

def addsK (ks : List Key) : List Key := ks.foldl addK []
section
variable {P : Program} {w : World} {A : Around} {E : Value → Shared → Prop} {s : Shared}
theorem addsK_snoc (ks : List Key) (k : Key) : addsK (ks ++ [k]) = addK (addsK ks) k := by unfold addsK; rw [List.foldl_append]; rfl
theorem addK_len (ks : List Key) (k : Key) : (addK ks k).length ≤ ks.length + 1 := by
  unfold addK
  split
  · omega
  · rw [List.length_append]; exact Nat.le_refl _
theorem foldK_len : ∀ (ks acc : List Key), (ks.foldl addK acc).length ≤ acc.length + ks.length
  | [], acc => by simp
  | k :: ks, acc => by
    have h := foldK_len ks (addK acc k)
    have h2 := addK_len acc k
    rw [List.foldl_cons, List.length_cons]
    omega
theorem addsK_len (ks : List Key) : (addsK ks).length ≤ ks.length := by have := foldK_len ks []; simpa [addsK] using this
theorem setL_update {I : Addr} {fp wr : List Addr} {G : Array GenState → Array GenState → Prop} {n : Nat} {Pv : Nat → Value → Prop} {St : Nat → Shared → Prop} {R : Result → Shared → Prop}
    (W : WalksS P w A.in1 I fp wr G n Pv St) (S : Addr) (hSf : S ∉ fp) (ks : List Key) (hn : n = ks.length) (hb : ks.length + 1 < scanBound) (hval : ∀ (i : Nat) (v : Value), Pv i v → ∃ k, ks[i]? = some k ∧ keyIs k v = true) :
    ∀ (m i : Nat) (s : Shared), n - i = m → i ≤ n → St i s → SetL w s.heap S (addsK (ks.take i)) → (∀ s1, Moved (S :: wr) G s s1 → SetL w s1.heap S (addsK ks) → R (.ok (.ret .none)) s1) →
      codeAny (model P w) A (.builtin "set.update.loop" ⟨[.ref S, .ref I], []⟩) R s := by
  have nw : S ∉ wr := fun h => hSf (W.sub _ h)
  have sb : ∀ b ∈ wr, b ∈ S :: wr := fun b hb => List.mem_cons_of_mem _ hb
  intro m
  induction m with
  | zero =>
    intro i s hk hi hst hS hR
    have e0 : i = n := by omega
    subst e0
    refine codeAny_builtin F.entry_set_update_loop ?_
    rw [Around.under_plainId F.plain_set_update_loop _]
    show wpAny _ A.in1 (pyNext (.ref I) >>= _) _ _ s
    refine wpAny_bind (W.done s _ _ hst fun s1 hm => ?_)
    show wpAny _ A.in1 (ret Value.none) _ _ s1
    rw [show ks.take i = ks from List.take_of_length_le (by omega)] at hS
    exact wpAny_pure (hR s1 (hm.mono sb) (hS.at fun o e => hm.heap S o nw e))
  | succ m ih =>
    intro i s hk hi hst hS hR
    have hlt : i < n := by omega
    refine codeAny_builtin F.entry_set_update_loop ?_
    rw [Around.under_plainId F.plain_set_update_loop _]
    show wpAny _ A.in1 (pyNext (.ref I) >>= _) _ _ s
    refine wpAny_bind (W.item i s _ _ hlt hst fun v s1 hP hst1 hm => ?_)
    obtain ⟨k, hk1, hk2⟩ := hval i v hP
    have hS1 : SetL w s1.heap S (addsK (ks.take i)) := hS.at fun o e => hm.heap S o nw e
    show wpAny _ A.in1 (holding [v] (setAdd S v) >>= _) _ _ s1
    refine wpAny_bind (wpAny_holding ?_)
    unfold setAdd
    refine wpAny_holding ?_
    refine wpAny_bind ((mixKind P w).pyHash hk2 ?_)
    have room : (addsK (ks.take i)).length + 1 < scanBound := by have := addsK_len (ks.take i); rw [List.length_take] at this; omega
    refine setL_hashed (s := { s1 with toks := s1.toks + 1 }) hk2 hS1 room fun h2 hsb hS2 b => ?_
    have e1 : ks.take (i + 1) = ks.take i ++ [k] := by rw [List.take_add_one, hk1]; rfl
    rw [← addsK_snoc, ← e1] at hS2
    refine wpAny_pure ⟨plainId_quiet F.plain_set_update_loop _, ih (i + 1) _ (by omega) hlt (W.frame _ s1 _ _ hst1 (Nat.le_succ _) fun b hb o e => ?_) hS2 fun s2 hm2 hS3 => ?_⟩
    · rw [hsb.2 b (fun z => hSf (z ▸ hb))]; exact e
    · refine hR s2 (Moved.trans W.gtrans ((hm.mono sb).then_heap (Nat.le_succ _) fun b o hb e => ?_) hm2) hS3
      rw [hsb.2 b (fun z => hb (z ▸ List.mem_cons_self))]; exact e

def nSet (w : World) : Obj := { cls := .type "set", dict := none, data := .set #[] 0 (.fresh 0 0 (!w.params.followText "set-order")) }
/-- set(v), by what its __init__ does -/
theorem call_set_by {v : Value} {Q : Value → Shared → Prop} {G : Shared → Prop}
    (hi : ∀ (A2 : Around) (R : PySem.Fin → Shared → Prop) (E2 : Value → Shared → Prop), A2.handled = A.handled → (∀ s2, G s2 → R (.done (.ret .none)) s2) → wpAny (model P w) A2 (Builtin.«set.__init__» ⟨[.ref s.heap.objs.size, v], []⟩) R E2 { s with heap := s.heap.push (nSet w) })
    (h : ∀ s2, G s2 → Q (.ref s.heap.objs.size) s2) : wpAny (model P w) A (call (.type "set") [v]) Q E s := by
  have ⟨_, _, _⟩ := F.called_set.mro
  have q1 := F.called_set.made
  have q2 := F.called_set.sub
  refine wpAny_call (codeAny_of_tree ?_)
  show wpAny _ _ (callAny (.type "set") _) _ _ _
  refine wpAny_pure ⟨Code.quiet_builtin _ (by decide +kernel), codeAny_builtin F.entry_type_call ?_⟩
  rw [Around.under_plain (weight_type_call_type "set" [v] []) rfl]
  have q3 := F.called_set.notType
  have q4 := F.called_set.canCreate
  have q5 := F.typeCall_set_1 v
  repeat (any_goals (first | assumption | wp_step))
  refine codeAny_mono (code_set_led1 v (E := E) (Q₁ := fun o1 s1 => o1 = .ref s.heap.objs.size ∧ s1 = { s with heap := s.heap.push (nSet w) }) ⟨rfl, rfl⟩) fun r s1 hr => ?_
  cases r with
  | error e => exact hr
  | ok fl =>
    cases fl with
    | ret obj =>
      obtain ⟨rfl, rfl⟩ := hr
      have g1 : (s.heap.push (nSet w)).get? s.heap.objs.size = some (nSet w) := Heap.get?_push_size _ rfl
      have g2 : Shared.TypeIs { s with heap := s.heap.push (nSet w) } (.ref s.heap.objs.size) "set" := ⟨_, g1, rfl⟩
      have q6 := F.called_set.init.lookup
      have q7 := F.called_set.init.bind (.ref s.heap.objs.size)
      repeat (any_goals (first | assumption | wp_step))
      refine codeAny_mono (codeAny_call_builtin (R := wants (fun r s2 => r = .none ∧ G s2) E) F.called_set.init.plain F.entry_set_init (check_set_init_1 g2 ?_)) fun r2 s2 hr2 => ?_
      · exact hi _ _ _ rfl fun s2 g => ⟨rfl, g⟩
      · cases r2 with
        | error e => exact hr2
        | ok f2 =>
          cases f2 with
          | ret r =>
            obtain ⟨rfl, g⟩ := hr2
            repeat (any_goals (first | assumption | wp_step))
            exact h _ g
          | _ => exact hr2.elim
    | _ => exact hr.elim

theorem setinit_tuple {l : Addr} {itm : Array Value} (ks : List Key) {R : PySem.Fin → Shared → Prop} (hh : A.handled = none) (hl : s.heap.IsTuple l itm) (hit : ∀ (i : Nat) (v : Value), itm[i]? = some v → ∃ k, ks[i]? = some k ∧ keyIs k v = true) (hz : itm.size = ks.length) (hb : ks.length + 1 < scanBound)
    (h : ∀ (h2 : Heap) (tk : Nat), SetL w h2 s.heap.objs.size (addsK ks) → (∀ b o, s.heap.get? b = some o → h2.get? b = some o) → R (.done (.ret .none)) { s with heap := h2, toks := tk }) :
    wpAny (model P w) A (Builtin.«set.__init__» ⟨[.ref s.heap.objs.size, .ref l], []⟩) R E { s with heap := s.heap.push (nSet w) } := by
  have g1 : (s.heap.push (nSet w)).get? s.heap.objs.size = some (nSet w) := Heap.get?_push_size _ rfl
  obtain ⟨⟨oc, od, odt, osl⟩, e1, e2, n1, e3⟩ := hl
  simp only at e2 e3
  subst e2; subst e3
  have e4 : (s.heap.push (nSet w)).get? l = some { cls := .type "tuple", dict := od, data := .seq itm n1, slots := osl } := Heap.get?_push_of_some _ e1
  have q8 := F.sub_tuple_set
  have q9 := F.sub_tuple_frozenset
  have qa : (Value.type "tuple" == Value.type "dict") = false := by decide
  have e5 : (s.heap.push (nSet w)).IsTuple l itm := ⟨_, e4, rfl, n1, rfl⟩
  unfold Builtin.«set.__init__» noKeywords Builtin.Frozenset.updateFrom
  generalize hPI : pyIter = PI
  unfold nSet at g1 e4 ⊢
  wp_walk
  subst hPI
  refine wpAny_pyIter_tuple e5 ?_
  refine wpAny_bind (wpAny_runValue ?_)
  have lt1 : l < s.heap.objs.size := Heap.lt_size e1
  have hh2 : A.in1.handled = none := by simp [hh]
  have ne1 : l ≠ (s.heap.push (nSet w)).objs.size := by rw [Heap.size_push]; exact Nat.ne_of_lt (Nat.lt_succ_of_lt lt1)
  have nf : s.heap.objs.size ∉ [(s.heap.push (nSet w)).objs.size, l] := by
    rw [Heap.size_push]
    intro z
    rcases List.mem_cons.mp z with z | z
    · exact absurd z (Nat.ne_of_lt (Nat.lt_succ_self _))
    · exact absurd (List.mem_singleton.mp z) (Nat.ne_of_gt lt1)
  refine setL_update ((Walks.tuple hh2 _ l ne1 itm).toS) s.heap.objs.size nf ks hz hb hit (itm.size - 0) 0 _ (by omega) (Nat.zero_le _) ⟨⟨_, Heap.get?_push_size _ rfl, rfl, rfl⟩, (e5.push _)⟩ ?_ ?_
  · exact (setL_fresh (h := s.heap) w).at fun o e => Heap.get?_push_of_some _ e
  · rintro ⟨h2, g2', d2, t2, os2⟩ hm hS
    have eg : g2' = s.gens := hm.gens
    have ed : d2 = s.drawn := hm.drawn
    have eo : os2 = s.os := hm.os
    subst eg ed eo
    show wpAny _ _ _ _ _ _
    refine wpAny_pure ?_
    show wpAny _ _ (ret Value.none) _ _ _
    refine wpAny_pure (h h2 t2 hS fun b o e => ?_)
    have b0 : b < s.heap.objs.size := Heap.lt_size e
    have b2 : b ≠ (s.heap.push (nSet w)).objs.size := by rw [Heap.size_push]; exact Nat.ne_of_lt (Nat.lt_succ_of_lt b0)
    refine hm.heap b o (fun z => ?_) (Heap.get?_push_of_some _ (Heap.get?_push_of_some _ e))
    rcases List.mem_cons.mp z with z | z
    · exact Nat.ne_of_lt b0 z
    · exact b2 (List.mem_singleton.mp z)
theorem call_setL_tuple {l : Addr} {itm : Array Value} (ks : List Key) {Q : Value → Shared → Prop} (hh : A.handled = none) (hl : s.heap.IsTuple l itm) (hit : ∀ (i : Nat) (v : Value), itm[i]? = some v → ∃ k, ks[i]? = some k ∧ keyIs k v = true) (hz : itm.size = ks.length) (hb : ks.length + 1 < scanBound)
    (h : ∀ (h2 : Heap) (tk : Nat), SetL w h2 s.heap.objs.size (addsK ks) → (∀ b o, s.heap.get? b = some o → h2.get? b = some o) → Q (.ref s.heap.objs.size) { s with heap := h2, toks := tk }) :
    wpAny (model P w) A (call (.type "set") [.ref l]) Q E s :=
  call_set_by (G := fun s2 => ∃ (h2 : Heap) (tk : Nat), s2 = { s with heap := h2, toks := tk } ∧ SetL w h2 s.heap.objs.size (addsK ks) ∧ ∀ b o, s.heap.get? b = some o → h2.get? b = some o)
    (fun A2 R E2 e q => setinit_tuple ks (e.trans hh) hl hit hz hb fun h2 tk r k => q _ ⟨h2, tk, rfl, r, k⟩) fun s2 ⟨h2, tk, e, r, k⟩ => by subst e; exact h h2 tk r k

theorem setinit_list {l : Addr} {itm : Array Value} (ks : List Key) {R : PySem.Fin → Shared → Prop} (hh : A.handled = none) (hl : s.heap.IsList l itm) (hit : ∀ (i : Nat) (v : Value), itm[i]? = some v → ∃ k, ks[i]? = some k ∧ keyIs k v = true) (hz : itm.size = ks.length) (hb : ks.length + 1 < scanBound)
    (h : ∀ (h2 : Heap) (tk : Nat), SetL w h2 s.heap.objs.size (addsK ks) → (∀ b o, s.heap.get? b = some o → h2.get? b = some o) → R (.done (.ret .none)) { s with heap := h2, toks := tk }) :
    wpAny (model P w) A (Builtin.«set.__init__» ⟨[.ref s.heap.objs.size, .ref l], []⟩) R E { s with heap := s.heap.push (nSet w) } := by
  have g1 : (s.heap.push (nSet w)).get? s.heap.objs.size = some (nSet w) := Heap.get?_push_size _ rfl
  obtain ⟨⟨oc, od, odt, osl⟩, e1, e2, n1, e3⟩ := hl
  simp only at e2 e3
  subst e2; subst e3
  have e4 : (s.heap.push (nSet w)).get? l = some { cls := .type "list", dict := od, data := .seq itm n1, slots := osl } := Heap.get?_push_of_some _ e1
  have q8 := F.sub_list_set
  have q9 := F.sub_list_frozenset
  have qa : (Value.type "list" == Value.type "dict") = false := by decide
  have e5 : (s.heap.push (nSet w)).IsList l itm := ⟨_, e4, rfl, n1, rfl⟩
  unfold Builtin.«set.__init__» noKeywords Builtin.Frozenset.updateFrom
  generalize hPI : pyIter = PI
  unfold nSet at g1 e4 ⊢
  wp_walk
  subst hPI
  refine wpAny_pyIter_list e5 ?_
  refine wpAny_bind (wpAny_runValue ?_)
  have lt1 : l < s.heap.objs.size := Heap.lt_size e1
  have hh2 : A.in1.handled = none := by simp [hh]
  have ne1 : l ≠ (s.heap.push (nSet w)).objs.size := by rw [Heap.size_push]; exact Nat.ne_of_lt (Nat.lt_succ_of_lt lt1)
  have nf : s.heap.objs.size ∉ [(s.heap.push (nSet w)).objs.size, l] := by
    rw [Heap.size_push]
    intro z
    rcases List.mem_cons.mp z with z | z
    · exact absurd z (Nat.ne_of_lt (Nat.lt_succ_self _))
    · exact absurd (List.mem_singleton.mp z) (Nat.ne_of_gt lt1)
  refine setL_update ((Walks.list hh2 _ l ne1 itm).toS) s.heap.objs.size nf ks hz hb hit (itm.size - 0) 0 _ (by omega) (Nat.zero_le _) ⟨⟨_, Heap.get?_push_size _ rfl, rfl, rfl⟩, (e5.push _)⟩ ?_ ?_
  · exact (setL_fresh (h := s.heap) w).at fun o e => Heap.get?_push_of_some _ e
  · rintro ⟨h2, g2', d2, t2, os2⟩ hm hS
    have eg : g2' = s.gens := hm.gens
    have ed : d2 = s.drawn := hm.drawn
    have eo : os2 = s.os := hm.os
    subst eg ed eo
    show wpAny _ _ _ _ _ _
    refine wpAny_pure ?_
    show wpAny _ _ (ret Value.none) _ _ _
    refine wpAny_pure (h h2 t2 hS fun b o e => ?_)
    have b0 : b < s.heap.objs.size := Heap.lt_size e
    have b2 : b ≠ (s.heap.push (nSet w)).objs.size := by rw [Heap.size_push]; exact Nat.ne_of_lt (Nat.lt_succ_of_lt b0)
    refine hm.heap b o (fun z => ?_) (Heap.get?_push_of_some _ (Heap.get?_push_of_some _ e))
    rcases List.mem_cons.mp z with z | z
    · exact Nat.ne_of_lt b0 z
    · exact b2 (List.mem_singleton.mp z)
theorem call_setL_list {l : Addr} {itm : Array Value} (ks : List Key) {Q : Value → Shared → Prop} (hh : A.handled = none) (hl : s.heap.IsList l itm) (hit : ∀ (i : Nat) (v : Value), itm[i]? = some v → ∃ k, ks[i]? = some k ∧ keyIs k v = true) (hz : itm.size = ks.length) (hb : ks.length + 1 < scanBound)
    (h : ∀ (h2 : Heap) (tk : Nat), SetL w h2 s.heap.objs.size (addsK ks) → (∀ b o, s.heap.get? b = some o → h2.get? b = some o) → Q (.ref s.heap.objs.size) { s with heap := h2, toks := tk }) :
    wpAny (model P w) A (call (.type "set") [.ref l]) Q E s :=
  call_set_by (G := fun s2 => ∃ (h2 : Heap) (tk : Nat), s2 = { s with heap := h2, toks := tk } ∧ SetL w h2 s.heap.objs.size (addsK ks) ∧ ∀ b o, s.heap.get? b = some o → h2.get? b = some o)
    (fun A2 R E2 e q => setinit_list ks (e.trans hh) hl hit hz hb fun h2 tk r k => q _ ⟨h2, tk, rfl, r, k⟩) fun s2 ⟨h2, tk, e, r, k⟩ => by subst e; exact h h2 tk r k
end
end Dm
end TxtDm26

section TxtDm27
set_option Elab.async false
set_option linter.all false
set_option maxRecDepth 100000
set_option maxHeartbeats 2000000
/-! Dm27: sorted(set), len(set); sets as expressions. -/
namespace Dm
open PySem PySem.Spec PySem.Calls PySem.W PyProof.Rows L2

def kD : Key → D
  | .inl i => .int i
  | .inr x => .str x
theorem kD_rep {K : PySem.W.Frag} {cl : Str → Option Addr} {F : Hp} (k : Key) : Rep K cl F (kV k) (kD k) := by
  cases k with
  | inl i => exact .int i
  | inr x => exact .str x
theorem kD_py (k : Key) : (kD k).py = some (encD (kD k)) := by cases k <;> rfl
theorem kD_repL {K : PySem.W.Frag} {cl : Str → Option Addr} {F : Hp} : ∀ ks : List Key, RepL K cl F (ks.map kV) (ks.map kD)
  | [] => RepL.nil
  | k :: ks => RepL.cons (kD_rep k) (kD_repL ks)
theorem eachMap {α β γ : Type} {R : α → β → Prop} {S : α → γ → Prop} (f : β → γ) (h : ∀ a b, R a b → S a (f b)) : ∀ {as : List α} {bs : List β}, EachIs R as bs → EachIs S as (bs.map f)
  | _, _, .nil => .nil
  | _, _, .cons a t => .cons (h _ _ a) (eachMap f h t)
theorem eachMk {α β : Type} {R : α → β → Prop} (f : α → β) : ∀ {as : List α}, (∀ a ∈ as, R a (f a)) → EachIs R as (as.map f)
  | [], _ => .nil
  | a :: as, h => .cons (h a List.mem_cons_self) (eachMk f fun b hb => h b (List.mem_cons_of_mem _ hb))
section
variable {P : Program} {w : World} {A : Around} {E : Value → Shared → Prop} {s : Shared} {a : Addr} {ks : List Key}
theorem collect_setL {Q : List Value → Shared → Prop} (hh : A.handled = none) (R : SetL w s.heap a ks)
    (hQ : ∀ s1 out ks', (∀ b o, s.heap.get? b = some o → s1.heap.get? b = some o) → s.heap.objs.size ≤ s1.heap.objs.size → s1.gens = s.gens → s1.os = s.os → ks'.Perm ks → EachIs (fun v k => keyIs k v = true) out ks' → Q out s1) :
    wpAny (model P w) A (collect (.ref a)) Q E s := by
  obtain ⟨o, es, ep, t, ho, hx, hd, ⟨g, pm, nd⟩, hb, hf, hr, hl⟩ := R
  have hz : es.size = ks.length := by rw [← pm.length_eq, List.length_map, Array.length_toList]
  refine L2.collect_set hh ⟨o, ho, hx.1, hd⟩ hf (by rw [hz]; exact hb) hr hl fun s1 out k1 z1 g1 o1 pm2 => hQ s1 out (out.map fun v => entK ((0 : Int), v)) k1 z1 g1 o1 ?_ (eachMk _ fun v hv => ?_)
  · have p := pm2.map fun v => entK ((0 : Int), v)
    rw [List.map_map] at p
    exact p.trans pm
  · obtain ⟨e, he, rfl⟩ := List.mem_map.mp (pm2.mem_iff.mp hv)
    exact (g e he).key
theorem key_reads {h : Heap} {k : Key} {v : Value} (q : keyIs k v = true) : ∃ as, Reads h v (encD (kD k)) as := by
  rcases keyIs_shape q with ⟨i, t, rfl, rfl⟩ | ⟨x, t, rfl, rfl⟩
  · exact ⟨[], .int i t⟩
  · exact ⟨[], .str x t⟩
theorem sorted_setL {K : PySem.W.Frag} {cl : Str → Option Addr} {F : Hp} {Q : Value → Shared → Prop} (hh : A.handled = none) (R : SetL w s.heap a ks) (S : ∀ ks' : List Key, ks'.Perm ks → SortIs (ks'.map kD)) (hu : A.units + 110 < cLine)
    (hQ : ∀ s1 p (out : List Value) (c : Nat) (vs : List V) (ks' : List Key), (∀ b o, s.heap.get? b = some o → s1.heap.get? b = some o) → s1.gens = s.gens → s1.os = s.os → s.heap.objs.size ≤ p →
      s1.heap.get? p = some (seqObj "list" out.toArray c) → ks'.Perm ks → Vals vs out → RepL K cl F vs (sortD (ks'.map kD)) → Q (.ref p) s1) :
    wpAny (model P w) A (call (.builtin "sorted") [.ref a]) Q E s := by
  refine call_function_entry_kw kind_sorted plain_sorted entry_sorted (args_sorted1 _) ?_
  unfold Builtin.«sorted»
  refine wpAny_bind (m := checkCount "sorted" 1 1 _) (wpAny_pure ?_)
  refine wpAny_bind (collect_setL (A := A.in1) hh R fun s1 vs ks' k1 hz g1 o1 pm e => ?_)
  have SI := S ks' pm
  have hL : vs.length ≤ sizeLine := by have := SI.ln; rw [List.length_map] at this; rw [e.length]; exact this
  refine wpAny_bind (wpAny_newList ?_ hL)
  have at1 : (s1.heap.push (seqObj "list" vs.toArray 0)).get? s1.heap.objs.size = some (seqObj "list" vs.toArray 0) := Heap.get?_push_size _ rfl
  have er : ∀ h : Heap, EachIs (fun v d => ∃ as, Reads h v (encD d) as) vs (ks'.map kD) := fun h => eachMap kD (fun v k q => key_reads q) e
  have er2 : EachIs (fun v d => ∃ x, RelV x v ∧ Rep K cl F x d) vs (ks'.map kD) := eachMap kD (fun v k q => ⟨kV k, relV_key q, kD_rep k⟩) e
  generalize hL1 : s1.heap.push (seqObj "list" vs.toArray 0) = hL1' at at1
  have sz1 : hL1'.objs.size = s1.heap.objs.size + 1 := by rw [← hL1, Heap.size_push]
  have so := SortsAt.data (prog := P) (w := w) (A := A.in1.in1) (s := { s1 with heap := sortingHeap hL1' s1.heap.objs.size vs }) (each_map (R := fun v d => ∃ as, Reads (sortingHeap hL1' s1.heap.objs.size vs) v d as) encD (er _)) SI.al SI.so
    (fun d hd => by
      obtain ⟨y, hy, rfl⟩ := List.mem_map.mp hd
      have := SI.dp y hy
      show A.units + 1 + 1 + (encD y).depth < cLine
      omega)
  refine wpAny_bind (wpAny_holding (wpAny_call_entry_kw slot_list_sort ⟨_, at1, rfl⟩ entry_list_sort ?body (args_list_sort _)))
  case body =>
    show wpAny (model P w) A.in1.in1 (Builtin.«list.sort» ⟨[.ref s1.heap.objs.size], []⟩) _ _ _
    have fin := sortVals_data (h' := sortingHeap hL1' s1.heap.objs.size vs) false er2 (er _) SI.al
    rw [← sortD_eq] at fin
    obtain ⟨vs', v1, v2⟩ := each_back fin
    refine wpAny_mono (list_sort_vals (s := { s1 with heap := hL1' }) (P := fun f s2 => f = .done (.ret .none) ∧ s2 = { s1 with heap := sortedHeap hL1' s1.heap.objs.size vs (sortVals (dataKind (sortingHeap hL1' s1.heap.objs.size vs) ((ks'.map kD).map encD)) false vs vs).toArray }) at1 so hL ⟨rfl, rfl⟩) (fun f s2 hf => ?_) fun _ _ e => e
    obtain ⟨rfl, rfl⟩ := hf
    obtain ⟨c, hc⟩ := sortedHeap_at (vs := vs) (out := (sortVals (dataKind (sortingHeap hL1' s1.heap.objs.size vs) ((ks'.map kD).map encD)) false vs vs).toArray) at1
    refine ⟨_, rfl, wpAny_pure ⟨_, rfl, hQ _ s1.heap.objs.size _ c vs' ks' (fun b u q => ?_) g1 o1 hz hc pm v1 v2⟩⟩
    have q1 := k1 b u q
    have lt1 := Heap.lt_size q1
    show (sortedHeap hL1' s1.heap.objs.size vs _).get? b = some u
    rw [sortedHeap_old (Nat.ne_of_lt lt1) (by rw [sz1]; exact Nat.lt_succ_of_lt lt1), ← hL1]
    exact Heap.get?_push_of_some _ q1
end
/-! the order of the keys does not matter -/
theorem leD'_I (a b : Int) : leD' (.int a) (.int b) = decide (a ≤ b) := by
  have h := PySem.W.dataLe_int (β := Int) (fun b => b)
  have := congrFun (congrFun h a) b
  unfold leD'
  rw [← this]
  rfl
def leI (a b : Int) : Bool := decide (a ≤ b)
def sortI (ns : List Int) : List Int := isort leI ns
@[simp] theorem sortD_ints (ns : List Int) : sortD (ns.map .int) = (sortI ns).map .int := isort_map D.int leD'_I ns
theorem leI_trans (a b c : Int) (h1 : leI a b = true) (h2 : leI b c = true) : leI a c = true := by
  unfold leI at *
  rw [decide_eq_true_eq] at *
  omega
theorem leI_total (a b : Int) : (leI a b || leI b a) = true := by
  unfold leI
  rw [Bool.or_eq_true, decide_eq_true_eq, decide_eq_true_eq]
  omega
theorem sortI_perm (ws : List Int) : (sortI ws).Perm ws := isort_perm ws
theorem sortI_sorted (ws : List Int) : (sortI ws).Pairwise (fun a b => leI a b = true) := isort_sorted leI_trans leI_total ws
theorem sortI_of {xs ys : List Int} (h : xs.Perm ys) : sortI xs = sortI ys :=
  List.Perm.eq_of_pairwise (le := fun a b => leI a b = true) (fun a b _ _ h1 h2 => by unfold leI at h1 h2; rw [decide_eq_true_eq] at h1 h2; omega) (sortI_sorted xs) (sortI_sorted ys) ((sortI_perm xs).trans (h.trans (sortI_perm ys).symm))
theorem sortS_of {xs ys : List Str} (h : xs.Perm ys) : sortS xs = sortS ys :=
  List.Perm.eq_of_pairwise (le := fun a b => leS a b = true) (fun a b _ _ h1 h2 => by
    unfold leS at h1 h2
    rw [decide_eq_true_eq] at h1 h2
    exact str_ext (List.le_antisymm h1 h2)) (sortS_sorted xs) (sortS_sorted ys) ((sortS_perm xs).trans (h.trans (sortS_perm ys).symm))
def isI : Key → Bool
  | .inl _ => true
  | _ => false
theorem keys_kind {ks : List Key} (h : sortOk (ks.map kD) = true) : (∃ ns : List Int, ks = ns.map .inl) ∨ ∃ ws : List Str, ks = ws.map .inr := by
  have al := (sortOk_is h).al
  have two : ∀ k ∈ ks, ∀ k' ∈ ks, isI k = isI k' := fun k hk k' hk' => by
    have := al (encD (kD k)) (List.mem_map_of_mem (List.mem_map_of_mem hk)) (encD (kD k')) (List.mem_map_of_mem (List.mem_map_of_mem hk'))
    cases k <;> cases k' <;> first | rfl | (simp [PySem.W.alike, kD, encD, D.py] at this)
  have aux : ∀ ks : List Key, (∀ k ∈ ks, isI k = true) → ∃ ns : List Int, ks = ns.map .inl := fun ks => by
    induction ks with
    | nil => exact fun _ => ⟨[], rfl⟩
    | cons k ks ih =>
      intro h
      obtain ⟨ns, rfl⟩ := ih fun k hk => h k (List.mem_cons_of_mem _ hk)
      cases k with
      | inl i => exact ⟨i :: ns, rfl⟩
      | inr x => have := h _ List.mem_cons_self; cases this
  have aux2 : ∀ ks : List Key, (∀ k ∈ ks, isI k = false) → ∃ ns : List Str, ks = ns.map .inr := fun ks => by
    induction ks with
    | nil => exact fun _ => ⟨[], rfl⟩
    | cons k ks ih =>
      intro h
      obtain ⟨ns, rfl⟩ := ih fun k hk => h k (List.mem_cons_of_mem _ hk)
      cases k with
      | inl i => have := h _ List.mem_cons_self; cases this
      | inr x => exact ⟨x :: ns, rfl⟩
  cases ks with
  | nil => exact .inl ⟨[], rfl⟩
  | cons k ks =>
    cases hk : isI k with
    | true => exact .inl (aux _ fun k' hk' => (two k' hk' k List.mem_cons_self).trans hk)
    | false => exact .inr (aux2 _ fun k' hk' => (two k' hk' k List.mem_cons_self).trans hk)
theorem perm_map_inv {α β : Type} {f : α → β} (g : β → α) (hf : ∀ a, g (f a) = a) {xs : List α} {l : List β} (h : l.Perm (xs.map f)) : ∃ ys : List α, l = ys.map f ∧ ys.Perm xs := by
  have im : ∀ l : List β, (∀ b ∈ l, ∃ a, f a = b) → ∃ ys : List α, l = ys.map f := fun l => by
    induction l with
    | nil => exact fun _ => ⟨[], rfl⟩
    | cons b l ih =>
      intro h
      obtain ⟨ys, rfl⟩ := ih fun b hb => h b (List.mem_cons_of_mem _ hb)
      obtain ⟨a, rfl⟩ := h b List.mem_cons_self
      exact ⟨a :: ys, rfl⟩
  obtain ⟨ys, rfl⟩ := im l fun b hb => let ⟨a, _, e⟩ := List.mem_map.mp (h.mem_iff.mp hb); ⟨a, e⟩
  have e1 : ∀ l : List α, (l.map f).map g = l := fun l => by
    rw [List.map_map]
    exact (List.map_congr_left fun a _ => hf a).trans (List.map_id l)
  have q := h.map g
  rw [e1, e1] at q
  exact ⟨ys, rfl, q⟩
theorem sort_perm {ks ks' : List Key} (h : sortOk (ks.map kD) = true) (p : ks'.Perm ks) : sortD (ks'.map kD) = sortD (ks.map kD) := by
  rcases keys_kind h with ⟨ns, rfl⟩ | ⟨ws, rfl⟩
  · obtain ⟨ms, rfl, pm⟩ := perm_map_inv (fun | .inl i => i | .inr _ => (0 : Int)) (fun _ => rfl) p
    have e1 : ∀ l : List Int, (l.map (Sum.inl : Int → Key)).map kD = l.map .int := fun l => by rw [List.map_map]; rfl
    rw [e1, e1, sortD_ints, sortD_ints, sortI_of pm]
  · obtain ⟨ms, rfl, pm⟩ := perm_map_inv (fun | .inr i => i | .inl _ => Str.empty) (fun _ => rfl) p
    have e1 : ∀ l : List Str, (l.map (Sum.inr : Str → Key)).map kD = l.map .str := fun l => by rw [List.map_map]; rfl
    rw [e1, e1, sortD_strs, sortD_strs, sortS_of pm]
theorem sortIs_perm {ks ks' : List Key} (h : sortOk (ks.map kD) = true) (p : ks'.Perm ks) : SortIs (ks'.map kD) := by
  have S := sortOk_is h
  have pm := p.map kD
  have pm2 := pm.map encD
  refine ⟨fun d hd => S.py d (pm.mem_iff.mp hd), fun d hd d' hd' => S.al d (pm2.mem_iff.mp hd) d' (pm2.mem_iff.mp hd'), ?_, fun d hd => S.dp d (pm.mem_iff.mp hd), by rw [pm.length_eq]; exact S.ln⟩
  rcases S.so with q | q
  · exact .inl fun d hd => q d (pm2.mem_iff.mp hd)
  · exact .inr fun d hd => q d (pm2.mem_iff.mp hd)
/-! ### rules -/
section
variable {K : PySem.W.Frag} {cl : Str → Option Addr} {W : WX}
/-- a set just made -/
abbrev PstSt (K : PySem.W.Frag) (cl : Str → Option Addr) (w : World) (W : WX) (Q : VK) (σ : L2.St) (ρ : En) (F H : Hp) (o : Ou (List Key)) : Prop := PstAc K cl (fun D a => SetO' w D a) (fun _ a b => a = b) W Q σ ρ F H o
def EvSt (K : PySem.W.Frag) (cl : Str → Option Addr) (w : World) (W : WX) (te : TE) (ex : En → Ou (List Key)) : Prop := ∀ F σ H ρ Q, Sta K cl F σ H ρ → PstSt K cl w W Q σ ρ F H (ex ρ) → te σ H Q
end
def ESt (cl : Str → Option Addr) (X : Cx) (e : Expr) (ex : En → Ou (List Key)) : Prop := ∀ W, Takes X W → ∃ t, PE X e t ∧ EvSt X.K cl X.w W t ex
def adK (ks : List Key) (ds : List D) : Option (List Key) := match ds with
  | [d] => (match keyD d with
    | some k => if ks.length + 1 < scanBound then some (addK ks k) else none
    | none => none)
  | _ => none
def stK (w : World) (Da : Addr) (ys : List V) (H : Hp) (Nx : Hp → Prop) : Prop := match ys with
  | [y] => ∃ (k : Key) (ks : List Key), y = kV k ∧ H Da = some (SetO' w Da ks) ∧ ks.length + 1 < scanBound ∧ Nx (upd H Da (SetO' w Da (addK ks k)))
  | _ => False
theorem gathK (K : PySem.W.Frag) (cl : Str → Option Addr) (w : World) : Gath K cl (List Key) (List Key) (fun D a => SetO' w D a) (fun _ a b => a = b) [] [] adK (stK w) where
  zero := fun _ => rfl
  ns := fun D a z => nomatch z
  mono := fun _ _ _ _ _ h => h
  step := fun Da F H a b ys ds b' Nx hD e r ha q => by
    subst e
    unfold adK at ha
    split at ha
    · rename_i d
      split at ha
      · rename_i k hk
        split at ha
        · rename_i hr
          cases ha
          have l1 : ys.length = 1 := r.1
          match ys, l1 with
          | [y], _ => exact ⟨k, a, (r.2 0 y d rfl rfl).key hk, hD, hr, q _ rfl⟩
        · cases ha
      · cases ha
    · cases ha
section
variable {cl : Str → Option Addr} {X : Cx} {e elt iter tg : Expr} {ifs : List Expr} {scope : Scope} {ex : En → Ou R} {xi : En → Ou (List D)} {gx : D → En → Ou Unit} {tx : En → Ou Bool} {sx : En → Ou (List Key)} {pos p : Pos} {x : Str} {k : Nat}
def xSetC (xi : En → Ou (List D)) (g : D → En → Ou Unit) (t : En → Ou Bool) (e : En → Ou R) (vs : List Nat) : En → Ou (List Key) := xAc [] adK xi g t (bOne e) vs
theorem est_comp (own : List (Str × Nat)) (hc : X.calm = true) (hN : X.N.Nodup) (hi : EI cl X tg iter xi) (ok : BlkOk X.N X.env.scope scope own)
    (hg : ∀ s H C c fp, EG cl (pnB (own.map (·.2))) (blkX X scope s H C c fp) tg gx) (ht : ∀ s H C c fp, ETs cl (blkX X scope s H C c fp) ifs tx) (he : ∀ s H C c fp, EE cl (blkX X scope s H C c fp) elt ex)
    (hs : ∀ x, foldedSetIterable iter X.env x = pure x := by intro _; rfl) : ESt cl X (.SetComp elt [⟨tg, iter, ifs, 0⟩] scope pos) (xSetC xi gx tx ex (own.map (·.2))) := fun W tk => by
  obtain ⟨wi, pi, vi⟩ := hi W tk
  have hg' := fun (b : Shared × Hp × Addr × List (Str × Addr) × List Addr) => hg b.1 b.2.1 b.2.2.1 b.2.2.2.1 b.2.2.2.2 W0 takes0
  have ht' := fun (b : Shared × Hp × Addr × List (Str × Addr) × List Addr) => ht b.1 b.2.1 b.2.2.1 b.2.2.2.1 b.2.2.2.2 W0 takes0
  have he' := fun (b : Shared × Hp × Addr × List (Str × Addr) × List Addr) => he b.1 b.2.1 b.2.2.1 b.2.2.2.1 b.2.2.2.2 W0 takes0
  obtain ⟨gf, hgf⟩ := Classical.axiomOfChoice hg'
  obtain ⟨tf, htf⟩ := Classical.axiomOfChoice ht'
  obtain ⟨ef, hef⟩ := Classical.axiomOfChoice he'
  refine ⟨_, pe_sk (g := fun x σ H Q => ∀ b, gf b x σ H Q) (tt := fun σ H Q => ∀ b, tf b σ H Q) (te := fun σ H Q => ∀ b, ef b σ H Q) hc hN pi ok
    (fun s H C c fp => ⟨fun pins s' σ H' v u Q I r h => (hgf (s, H, C, c, fp)).1.run pins s' σ H' v u Q I r (h _)⟩)
    (fun s H C c fp => ⟨fun pins s' σ H' Q I h => (htf (s, H, C, c, fp)).1.run pins s' σ H' Q I (h _)⟩)
    (fun s H C c fp => ⟨fun pins s' σ H' Q I h => (hef (s, H, C, c, fp)).1.run pins s' σ H' Q I (h _)⟩) hs, ?_⟩
  intro F σ H ρ Q S q
  exact ev_ac (gathK X.K cl X.w) vi (fun F σ H ρ x d Q S r q b => (hgf b).2 F σ H ρ x d Q S r q) (fun F σ H ρ Q S q b => (htf b).2 F σ H ρ Q S q)
    (ev_bOne (te := fun σ H Q => ∀ b, ef b σ H Q) (fun F σ H ρ Q S q b => (hef b).2 F σ H ρ Q S q)) S q
/-! set(xs) -/
def setD : List D → Option (List Key)
  | [.lst ds] => (keysD ds).bind fun ks => if ks.length + 1 < scanBound then some (addsK ks) else none
  | [.tup ds] => (keysD ds).bind fun ks => if ks.length + 1 < scanBound then some (addsK ks) else none
  | _ => none
def xSetX (a : En → Ou (List R)) : En → Ou (List Key) := fun ρ => (a ρ).bn fun rs ρ1 => match pks ρ1 rs with
  | some ds => (match setD ds with
    | some ks => .ok ks ρ1
    | none => .st)
  | none => .st
def rSet (K : PySem.W.Frag) (w : World) : List V → Hp → VK → Prop := fun xs H Q => ∃ a ks, xs = [.ref a] ∧ (SqL K H a (ks.map kV) ∨ SqT K H a (ks.map kV)) ∧ ks.length + 1 < scanBound ∧ ∀ Da, H Da = none → Q (.ref Da) (upd H Da (SetO' w Da (addsK ks)))
theorem vals_keys {P : Program} {w : World} {ks : List Key} {its : List Value} (r : Vals (ks.map kV) its) : ∀ (i : Nat) (v : Value), its[i]? = some v → ∃ k, ks[i]? = some k ∧ keyIs k v = true := by
  intro i v h
  rcases Vals.at r i with ⟨_, e⟩ | ⟨x, u, e1, e2, e3⟩
  · rw [h] at e; cases e
  · rw [h] at e2; cases e2
    rw [List.getElem?_map] at e1
    obtain ⟨k, e4, e5⟩ := Option.map_eq_some_iff.mp e1
    subst e5
    exact ⟨k, e4, kV_is (P := P) (w := w) e3⟩
theorem cr_set (hc : X.calm = true) : CallR X (.type "set") (rSet X.K X.w) := by
  rintro pins s σ H xs us Q I r ⟨a, ks, rfl, hq, hb, q⟩
  obtain ⟨u, rfl, rx⟩ := vals1 r
  cases rx
  have hf : H s.heap.objs.size = none := I.hok.fresh (Nat.le_refl _)
  have fin : ∀ (h2 : Heap) (tk : Nat), SetL X.w h2 s.heap.objs.size (addsK ks) → (∀ b o, s.heap.get? b = some o → h2.get? b = some o) → EP X pins σ Q (.ref s.heap.objs.size) { s with heap := h2, toks := tk } := fun h2 tk S k =>
    ⟨.ref s.heap.objs.size, upd H s.heap.objs.size (SetO' X.w s.heap.objs.size (addsK ks)), I.laid (t' := tk) k (Nat.le_refl _) (setO'_new S), rfl, q _ hf⟩
  rcases hq with hq | hq
  · obtain ⟨its, rv, hl, hz⟩ := I.list hq
    exact call_setL_list ks (I.ok.hd hc) hl.isList (fun i v e => vals_keys (P := X.prog) (w := X.w) rv i v (by simpa using e)) (by have := rv.length; simpa using this.symm) hb fin
  · obtain ⟨its, rv, hl, hz⟩ := I.tuple hq
    exact call_setL_tuple ks (I.ok.hd hc) hl (fun i v e => vals_keys (P := X.prog) (w := X.w) rv i v (by simpa using e)) (by have := rv.length; simpa using this.symm) hb fin
theorem setD_ok {K : PySem.W.Frag} {w : World} {F H : Hp} {xs : List V} {ds : List D} {ks : List Key} (h : PkL K cl F H xs ds) (e : setD ds = some ks) {Q : VK} (q : ∀ Da, H Da = none → Q (.ref Da) (upd H Da (SetO' w Da ks))) : rSet K w xs H Q := by
  unfold setD at e
  split at e
  · obtain ⟨x, rfl, a, vs, rfl, ha, r⟩ := h.one
    obtain ⟨ks', e1, e2⟩ := Option.bind_eq_some_iff.mp e
    split at e2
    · rename_i hb; cases e2
      exact ⟨a, ks', rfl, .inl (by rw [← r.keys e1]; exact .inl (.inl ha)), hb, q⟩
    · cases e2
  · obtain ⟨x, rfl, _, a, vs, rfl, ha, _, r⟩ := h.one
    obtain ⟨ks', e1, e2⟩ := Option.bind_eq_some_iff.mp e
    split at e2
    · rename_i hb; cases e2
      exact ⟨a, ks', rfl, .inr (by rw [← r.keys e1]; exact ha), hb, q⟩
    · cases e2
  · cases e
theorem ev_setX {K : PySem.W.Frag} {w : World} {W : WX} {t : TA} {a : En → Ou (List R)} (ha : EvK K cl W t a) : EvSt K cl w W (tCB (rSet K w) t) (xSetX a) := by
  intro F σ H ρ Q S q
  refine ha F σ H ρ _ S ?_
  unfold xSetX at q
  cases e : a ρ with
  | st => rw [e] at q; exact q
  | er y ρ' => rw [e] at q; exact q
  | ok rs ρ1 =>
    rw [e, Ou.bn_ok] at q
    intro xs F1 H1 S1 s1 rl
    cases e2 : pks ρ1 rs with
    | none => rw [e2] at q; exact q.elim
    | some ds =>
      rw [e2] at q
      simp only at q
      cases e3 : setD ds with
      | none => rw [e3] at q; exact q.elim
      | some ks =>
        rw [e3] at q
        refine setD_ok (pks_ok S1 rl e2) e3 fun Da hD => ?_
        have g : Grow F1 H1 F1 (upd H1 Da (SetO' w Da ks)) := Grow.new S1.sub hD
        have hH : H Da = none := s1.non0 hD
        exact q Da ks F1 _ (g.sta S1) (s1.trans g.stp) (sub_none S1.sub hD) upd_same rfl (fun ⟨i, c, b1, b2, b3⟩ => by
          obtain ⟨p, o, c1, _, c3, _⟩ := S1.own i c b1 b2
          rw [b3] at c1; cases c1
          rw [hD] at c3; cases c3) hH
theorem est_set (hc : X.calm = true) (hv : bootBuiltins "set" = some (.type "set")) (hm : X.mg "set" = none) {er : En → Ou (List R)} {es : List Expr} (ha : EK cl X (e :: es) er) (hg : Gl X "set" := by rfl)
    (he : starEach (e :: es) X.env = (false, eval e X.env) :: starEach es X.env := by rfl) (hpl : (backTo pos (starEach es X.env)).any (·.1) = false := by rfl) : ESt cl X (.Call (.Name "set" p) (e :: es) [] pos) (xSetX er) := fun W tk =>
  let ⟨_, pp, v⟩ := ha W tk; ⟨_, pe_callTy (cr_set hc) hg hm hv pp (by decide) (by decide) he hpl, ev_setX v⟩
/-! what is asked of a set -/
theorem rep_flat {K : PySem.W.Frag} {F : Hp} {d : D} (h : flatD d = true) : Rep K cl F (vOf d) d := by
  cases d <;> first | exact .non | exact .bl _ | exact .int _ | exact .str _ | cases h
theorem repL_flat {K : PySem.W.Frag} {F : Hp} : ∀ {ds : List D}, ds.all flatD = true → RepL K cl F (ds.map vOf) ds
  | [], _ => RepL.nil
  | d :: ds, h => by
    rw [List.all_cons, Bool.and_eq_true] at h
    exact RepL.cons (rep_flat h.1) (repL_flat h.2)
theorem srt_flat (ks : List Key) : (sortD (ks.map kD)).all flatD = true := by
  rw [List.all_eq_true]
  intro d hd
  obtain ⟨k, _, rfl⟩ := List.mem_map.mp ((isort_perm (ks.map kD)).mem_iff.mp hd)
  cases k <;> rfl
def rSrtS (w : World) : List V → Hp → VK → Prop := fun xs H Q => ∃ a ks, xs = [.ref a] ∧ H a = some (SetO' w a ks) ∧ sortOk (ks.map kD) = true ∧ ∀ p, H p = none → Q (.ref p) (upd H p (.lst ((sortD (ks.map kD)).map vOf)))
def rLenS (w : World) : List V → Hp → VK → Prop := fun xs H Q => ∃ a ks, xs = [.ref a] ∧ H a = some (SetO' w a ks) ∧ Q (.int ks.length) H
theorem cr_srtS (hr : Room k X.A) : CallR X (.builtin "sorted") (rSrtS X.w) := by
  rintro pins s σ H xs us Q I r ⟨a, ks, rfl, ha, ok, q⟩
  obtain ⟨u, rfl, rx⟩ := vals1 r
  cases rx
  refine sorted_setL (K := X.K) (cl := fun _ => none) (F := H) hr.hd (setO'_get I ha) (fun ks' p => sortIs_perm ok p) (by have := hr.un; omega) fun s1 p out c vs ks' k1 g1 o1 hp hc pm hv rl => ?_
  rw [sort_perm ok pm] at rl
  have e1 := (rl.flats (srt_flat ks)).1
  subst e1
  have hlen : ((sortD (ks.map kD)).map vOf).length ≤ sizeLine := by
    rw [List.length_map, show (sortD (ks.map kD)).length = (ks.map kD).length from (isort_perm (ks.map kD)).length_eq]
    exact (sortOk_is ok).ln
  have hn : H p = none := I.hok.fresh hp
  obtain ⟨hs, gs, ds, ts, os⟩ := s
  obtain ⟨h1, g2, d1, t1, o2⟩ := s1
  subst o1
  have J : Inv X pins σ (upd H p (.lst ((sortD (ks.map kD)).map vOf))) (⟨h1, g2, d1, t1, o2⟩ : Shared) :=
    I.call (ch := []) (Un.laid k1 hp hn) (I.hok.laid k1 hp ⟨hlen, out, c, hv, hc⟩) (by rw [show g2 = gs from g1]; exact I.bare) (fun _ z => nomatch z)
  exact ⟨.ref p, _, J, rfl, q p hn⟩
theorem cr_lenS : CallR X (.builtin "len") (rLenS X.w) := by
  rintro pins s σ H xs us Q I r ⟨a, ks, rfl, ha, q⟩
  obtain ⟨u, rfl, rx⟩ := vals1 r
  cases rx
  obtain ⟨o, es, ep, t, ho, hx, hd, ⟨g, pm, nd⟩, hb, hf, _⟩ := setO'_get I ha
  have hz : es.size = ks.length := by rw [← pm.length_eq, List.length_map, Array.length_toList]
  exact call_len_set ho hx hd hf (by rw [hz]; unfold scanBound at hb; omega) ⟨.int ks.length, H, I.tok _, ⟨_, by rw [hz]⟩, q⟩
def xSrtS (s : En → Ou (List Key)) : En → Ou R := fun ρ => (s ρ).bn fun ks ρ1 => if sortOk (ks.map kD) = true then .ok (.o (.L (sortD (ks.map kD)))) ρ1 else .st
def xLenS (s : En → Ou (List Key)) : En → Ou R := fun ρ => (s ρ).bn fun ks ρ1 => .ok (.v (.int ks.length)) ρ1
theorem ev_srtS {K : PySem.W.Frag} {w : World} {W : WX} {te : TE} (hs : EvSt K cl w W te sx) : EvE K cl W (tCB (rSrtS w) (tCons te tNil)) (xSrtS sx) := by
  intro F σ H ρ Q S q
  refine hs F σ H ρ _ S ?_
  unfold xSrtS at q
  cases e : sx ρ with
  | st => rw [e] at q; exact q
  | er y ρ' => rw [e] at q; exact q
  | ok ks ρ1 =>
    rw [e, Ou.bn_ok] at q
    intro Da ks' F1 H1 S1 s1 fD hD ee nD h0
    subst ee
    by_cases ok : sortOk (ks'.map kD) = true
    · rw [if_pos ok] at q
      refine ⟨Da, ks', rfl, hD, ok, fun p hp => ?_⟩
      obtain ⟨g, rr⟩ := resL (cl := cl) S1.sub hp (repL_flat (K := K) (srt_flat ks'))
      exact q _ F1 _ (g.sta S1) (s1.trans g.stp) ((rr.rel S1).from s1)
    · rw [if_neg ok] at q; exact q.elim
theorem ev_lenS {K : PySem.W.Frag} {w : World} {W : WX} {te : TE} (hs : EvSt K cl w W te sx) : EvE K cl W (tCB (rLenS w) (tCons te tNil)) (xLenS sx) := by
  intro F σ H ρ Q S q
  refine hs F σ H ρ _ S ?_
  unfold xLenS at q
  cases e : sx ρ with
  | st => rw [e] at q; exact q
  | er y ρ' => rw [e] at q; exact q
  | ok ks ρ1 =>
    rw [e, Ou.bn_ok] at q
    intro Da ks' F1 H1 S1 s1 fD hD ee nD h0
    subst ee
    exact ⟨Da, ks', rfl, hD, q _ F1 H1 S1 s1 (.int _)⟩
theorem ee_srtS (hr : Room k X.A) (hv : bootBuiltins "sorted" = some (.builtin "sorted")) (hm : X.mg "sorted" = none) (ha : ESt cl X e sx) (hg : Gl X "sorted" := by rfl) (hs : starEach [e] X.env = [(false, eval e X.env)] := by rfl) : EE cl X (.Call (.Name "sorted" p) [e] [] pos) (xSrtS sx) := fun W tk =>
  let ⟨_, pp, v⟩ := ha W tk; ⟨_, pe_callB (cr_srtS hr) hg hm hv (pa_cons pp pa_nil hs) (by decide) (by decide) hs rfl, ev_srtS v⟩
theorem ee_lenS (hv : bootBuiltins "len" = some (.builtin "len")) (hm : X.mg "len" = none) (ha : ESt cl X e sx) (hg : Gl X "len" := by rfl) (hs : starEach [e] X.env = [(false, eval e X.env)] := by rfl) : EE cl X (.Call (.Name "len" p) [e] [] pos) (xLenS sx) := fun W tk =>
  let ⟨_, pp, v⟩ := ha W tk; ⟨_, pe_callB cr_lenS hg hm hv (pa_cons pp pa_nil hs) (by decide) (by decide) hs rfl, ev_lenS v⟩
end
end Dm
end TxtDm27

section TxtDm28
set_option Elab.async false
set_option linter.all false
set_option maxRecDepth 100000
set_option maxHeartbeats 2000000
/-! Dm28: calls of defs with defaults, of methods, of own classes. -/
namespace Dm
open PySem PySem.Spec PyProof.Rows L2

/-- how n positional values, the keywords ks and the defaults dvs are bound -/
def KwD (K : PySem.W.Frag) (fd : FuncData) (ps : List Str) (n : Nat) (ks : List Str) (dvs : List V) (is : List Nat) : Prop :=
  ∃ dus : List Value, Vals dvs dus ∧ ∀ (s : Shared) (us ws : List Value), K.In s.heap → us.length = n → ws.length = ks.length → BindsTo s fd ⟨us, ks.zip ws⟩ (ps.zip (pick is (us ++ ws ++ dus)))
def tCallD (n m : Nat) (is : List Nat) (dvs : List V) (sp : Sp) (E : L2.St → XK) (t tk : TA) : TE := fun σ H Q => t σ H fun vs H1 => tk σ H1 fun zs H2 => vs.length = n ∧ zs.length = m ∧ sp (pick is (vs ++ zs ++ dvs)) H2 Q (E σ)
def tMethD (C : Addr) (mn : Str) (n m : Nat) (is : List Nat) (dvs : List V) (sp : Sp) (E : L2.St → XK) (ta : TE) (t tk : TA) : TE := fun σ H Q => ta σ H fun x H0 => ∃ a dx fs, x = .ref a ∧ H0 a = some (.ins C dx fs) ∧ fs.lookup mn = none ∧
  t σ H0 fun vs H1 => tk σ H1 fun zs H2 => vs.length = n ∧ zs.length = m ∧ sp (pick is (x :: vs ++ zs ++ dvs)) H2 Q (E σ)
def tMakeD (C : Addr) (n m : Nat) (is : List Nat) (dvs : List V) (sp : Sp) (E : L2.St → XK) (t tk : TA) : TE := fun σ H Q => t σ H fun vs H1 => tk σ H1 fun zs H2 => vs.length = n ∧ zs.length = m ∧
  ∀ x dx, H2 x = none → H2 dx = none → dx ≠ x → sp (pick is (.ref x :: vs ++ zs ++ dvs)) (upd (upd H2 dx (.own x)) x (.ins C dx [])) (fun v H3 => v = .non ∧ Q (.ref x) H3) (E σ)
theorem make_guards {A : Around} {C : Addr} {us : List Value} {kw : List (Str × Value)} : (A.under (.builtin "type.__call__" ⟨.ref C :: us, kw⟩)).guards = A.guards := by
  first | rfl | simp [Around.under, Code.weight, Code.isCreation, Code.isGuard, Code.isCaller, Code.frames, Code.isFrame, guardIds]
theorem Rm.make {k : Nat} {A : Around} (r : Rm (k + 1) A) (C : Addr) (us : List Value) (kw : List (Str × Value)) : Rm k (A.under (.builtin "type.__call__" ⟨.ref C :: us, kw⟩)) :=
  ⟨r.room.make C us kw, by rw [make_guards]; exact r.g⟩
section
variable {X : Cx} {CX : CXT} {k n : Nat} {f C : Addr} {fd : FuncData} {ps ks : List Str} {is : List Nat} {dvs : List V} {sp : Sp} {E : L2.St → XK} {x mn : Str} {p pos apos : Pos} {e o : Expr} {es : List Expr} {kws : List Keyword} {ta : TE} {t tk : TA}
theorem run_fnD {pins : List (Addr × Obj)} {σ : L2.St} {H : Hp} {s : Shared} {Q : VK} {us ws : List Value} {vs zs : List V} (F : FnG X.prog X.w X.K X.mg X.base CX k f fd ps sp) (hr : Rm k X.A) (hb : KwD X.K fd ps n ks dvs is) (hx : PassesAt CX X σ (E σ))
    (I : Inv X pins σ H s) (r : Vals vs us) (rz : Vals zs ws) (l1 : vs.length = n) (l2 : zs.length = ks.length) (h : sp (pick is (vs ++ zs ++ dvs)) H Q (E σ)) : wpAny (model X.prog X.w) X.A (call (.ref f) us (ks.zip ws)) (EP X pins σ Q) X.xe s := by
  obtain ⟨dus, rd, hb⟩ := hb
  refine wpAny_call (codeAny_mono (F.run X.A X.stack s H ⟨us, ks.zip ws⟩ (pick is (us ++ ws ++ dus)) (pick is (vs ++ zs ++ dvs)) Q (E σ) hr I.env0 (hb s us ws I.kIn (r.length.symm.trans l1) (rz.length.symm.trans l2)) (Vals.pick ((r.append rz).append rd) is) h) fun r s' hq => ?_)
  cases r with
  | error e => exact hx pins H s e s' I hq
  | ok fl =>
    cases fl with
    | ret u => exact I.after hq
    | _ => exact False.elim hq
theorem run_makeD {pins : List (Addr × Obj)} {σ : L2.St} {H : Hp} {s : Shared} {Q : VK} {us ws : List Value} {vs zs : List V} (M : Mk X.K C f) (F : FnG X.prog X.w X.K X.mg X.base CX k f fd ps sp) (hr : Rm (k + 1) X.A) (hb : KwD X.K fd ps (n + 1) ks dvs is) (hx : PassesAt CX X σ (E σ))
    (I : Inv X pins σ H s) (r : Vals vs us) (rz : Vals zs ws) (l1 : vs.length = n) (l2 : zs.length = ks.length)
    (h : ∀ x dx, H x = none → H dx = none → dx ≠ x → sp (pick is (.ref x :: vs ++ zs ++ dvs)) (upd (upd H dx (.own x)) x (.ins C dx [])) (fun v H2 => v = .non ∧ Q (.ref x) H2) (E σ)) :
    wpAny (model X.prog X.w) X.A (call (.ref C) us (ks.zip ws)) (EP X pins σ Q) X.xe s := by
  have hq := h (s.heap.objs.size + 1) s.heap.objs.size (I.hok.fresh (Nat.le_succ _)) (I.hok.fresh (Nat.le_refl _)) (Nat.ne_of_lt (Nat.lt_succ_self _))
  have I2 := Inv.made (C := C) I
  obtain ⟨dus, rd, hb⟩ := hb
  have r1 : Vals (V.ref (s.heap.objs.size + 1) :: vs) (Value.ref (s.heap.objs.size + 1) :: us) := .cons rfl r
  refine wpAny_call (make_map (f := f) I.kIn M.makes M.init (beq_iff_eq.mp M.fn) (codeAny_mono (F.run _ X.stack _ _ ⟨Value.ref (s.heap.objs.size + 1) :: us, ks.zip ws⟩ (pick is (Value.ref (s.heap.objs.size + 1) :: us ++ ws ++ dus)) _ _ (E σ) (hr.make C us (ks.zip ws))
    (I2.env0.make C us (ks.zip ws)) (hb _ (Value.ref (s.heap.objs.size + 1) :: us) ws I2.kIn (r1.length.symm.trans (congrArg Nat.succ l1)) (rz.length.symm.trans l2)) (Vals.pick ((r1.append rz).append rd) is) hq) fun r s' hq' => ?_))
  cases r with
  | error e => exact hx pins _ _ e s' I2 hq'
  | ok fl =>
    cases fl with
    | ret u =>
      obtain ⟨v, H', I3, rv, ev, q3⟩ := I2.after hq'
      subst ev
      exact ⟨rv, ⟨V.ref (s.heap.objs.size + 1), H', I3, rfl, q3⟩⟩
    | _ => exact False.elim hq'
theorem pe_callD (F : FnG X.prog X.w X.K X.mg X.base CX k f fd ps sp) (hr : Rm k X.A) (hg : Gl X x) (hm : X.mg x = some (.ref f)) (hk : PySem.W.keepIn X.K (.ref f) = true) (hb : KwD X.K fd ps n ks dvs is) (hx : ∀ σ, PassesAt CX X σ (E σ))
    (ha : PA X (e :: es) t) (hkw : PK X kws tk) (hall : (backToKw pos (keywordEach kws X.env)).all (·.1.isSome) = true := by rfl) (hks : (backToKw pos (keywordEach kws X.env)).filterMap (·.1) = ks := by rfl) (hdb : (x == ("__debug__" : Str)) = false := by decide) (he : starEach (e :: es) X.env = (false, eval e X.env) :: starEach es X.env := by rfl)
    (hpl : ((backTo pos (starEach (e :: es) X.env)).any (·.1) || (backToKw pos (keywordEach kws X.env)).any (·.1.isNone)) = false := by rfl) :
    PE X (.Call (.Name x p) (e :: es) kws pos) (tCallD n ks.length is dvs sp E t tk) := by
  refine ⟨fun pins s σ H Q I h => ?_⟩
  refine wpAny_Call_Name_kw (ld_glob I hg hm ?_ hdb)
  refine PySem.W.callWith_KW (h₀ := X.base) I.ok.mod.kin hk hall (thn (ha.run pos pins s σ H _ I h) fun us s1 ⟨vs, H1, I1, r, q⟩ => ?_) hpl he
  refine thn (hkw.run pos pins s1 σ H1 _ I1 q) fun ws s2 ⟨zs, H2, I2, rz, l1, l2, q2⟩ => ⟨I2.kIn, ?_⟩
  rw [hks]
  exact run_fnD F hr hb (hx σ) I2 r rz l1 l2 q2
theorem pe_callD0 (F : FnG X.prog X.w X.K X.mg X.base CX k f fd ps sp) (hr : Rm k X.A) (hg : Gl X x) (hm : X.mg x = some (.ref f)) (hk : PySem.W.keepIn X.K (.ref f) = true) (hb : KwD X.K fd ps 0 ks dvs is) (hx : ∀ σ, PassesAt CX X σ (E σ))
    (hkw : PK X kws tk) (hall : (backToKw pos (keywordEach kws X.env)).all (·.1.isSome) = true := by rfl) (hks : (backToKw pos (keywordEach kws X.env)).filterMap (·.1) = ks := by rfl) (hdb : (x == ("__debug__" : Str)) = false := by decide) (hpl : ((backTo pos (starEach [] X.env)).any (·.1) || (backToKw pos (keywordEach kws X.env)).any (·.1.isNone)) = false := by rfl) :
    PE X (.Call (.Name x p) [] kws pos) (tCallD 0 ks.length is dvs sp E tNil tk) := by
  refine ⟨fun pins s σ H Q I h => ?_⟩
  refine wpAny_Call_Name_kw (ld_glob I hg hm ?_ hdb)
  refine PySem.W.callWith_KW0 (h₀ := X.base) I.ok.mod.kin hk hall ?_ hpl
  refine thn (hkw.run pos pins s σ H _ I h) fun ws s2 ⟨zs, H2, I2, rz, l1, l2, q2⟩ => ⟨I2.kIn, ?_⟩
  rw [hks]
  exact run_fnD (us := []) (vs := []) F hr hb (hx σ) I2 .nil rz rfl l2 q2
theorem pe_makeD (M : Mk X.K C f) (F : FnG X.prog X.w X.K X.mg X.base CX k f fd ps sp) (hr : Rm (k + 1) X.A) (hg : Gl X x) (hm : X.mg x = some (.ref C)) (hb : KwD X.K fd ps (n + 1) ks dvs is) (hx : ∀ σ, PassesAt CX X σ (E σ))
    (ha : PA X (e :: es) t) (hkw : PK X kws tk) (hall : (backToKw pos (keywordEach kws X.env)).all (·.1.isSome) = true := by rfl) (hks : (backToKw pos (keywordEach kws X.env)).filterMap (·.1) = ks := by rfl) (hdb : (x == ("__debug__" : Str)) = false := by decide) (he : starEach (e :: es) X.env = (false, eval e X.env) :: starEach es X.env := by rfl)
    (hpl : ((backTo pos (starEach (e :: es) X.env)).any (·.1) || (backToKw pos (keywordEach kws X.env)).any (·.1.isNone)) = false := by rfl) :
    PE X (.Call (.Name x p) (e :: es) kws pos) (tMakeD C n ks.length is dvs sp E t tk) := by
  refine ⟨fun pins s σ H Q I h => ?_⟩
  refine wpAny_Call_Name_kw (ld_glob I hg hm ?_ hdb)
  refine PySem.W.callWith_KW (h₀ := X.base) I.ok.mod.kin M.kp hall (thn (ha.run pos pins s σ H _ I h) fun us s1 ⟨vs, H1, I1, r, q⟩ => ?_) hpl he
  refine thn (hkw.run pos pins s1 σ H1 _ I1 q) fun ws s2 ⟨zs, H2, I2, rz, l1, l2, q2⟩ => ⟨I2.kIn, ?_⟩
  rw [hks]
  exact run_makeD M F hr hb (hx σ) I2 r rz l1 l2 q2
theorem pe_makeD0 (M : Mk X.K C f) (F : FnG X.prog X.w X.K X.mg X.base CX k f fd ps sp) (hr : Rm (k + 1) X.A) (hg : Gl X x) (hm : X.mg x = some (.ref C)) (hb : KwD X.K fd ps 1 ks dvs is) (hx : ∀ σ, PassesAt CX X σ (E σ))
    (hkw : PK X kws tk) (hall : (backToKw pos (keywordEach kws X.env)).all (·.1.isSome) = true := by rfl) (hks : (backToKw pos (keywordEach kws X.env)).filterMap (·.1) = ks := by rfl) (hdb : (x == ("__debug__" : Str)) = false := by decide) (hpl : ((backTo pos (starEach [] X.env)).any (·.1) || (backToKw pos (keywordEach kws X.env)).any (·.1.isNone)) = false := by rfl) :
    PE X (.Call (.Name x p) [] kws pos) (tMakeD C 0 ks.length is dvs sp E tNil tk) := by
  refine ⟨fun pins s σ H Q I h => ?_⟩
  refine wpAny_Call_Name_kw (ld_glob I hg hm ?_ hdb)
  refine PySem.W.callWith_KW0 (h₀ := X.base) I.ok.mod.kin M.kp hall ?_ hpl
  refine thn (hkw.run pos pins s σ H _ I h) fun ws s2 ⟨zs, H2, I2, rz, l1, l2, q2⟩ => ⟨I2.kIn, ?_⟩
  rw [hks]
  exact run_makeD (us := []) (vs := []) M F hr hb (hx σ) I2 .nil rz rfl l2 q2
theorem pe_methD {pl : Sem Bool} (hO : PE X o ta) (c : Cls X.K C) (hm : Meth X.K C mn f) (F : FnG X.prog X.w X.K X.mg X.base CX k f fd ps sp) (hr : Rm k X.A) (hb : KwD X.K fd ps (n + 1) ks dvs is) (hx : ∀ σ, PassesAt CX X σ (E σ))
    (ha : PA X (e :: es) t) (hkw : PK X kws tk) (hall : (backToKw pos (keywordEach kws X.env)).all (·.1.isSome) = true := by rfl) (hks : (backToKw pos (keywordEach kws X.env)).filterMap (·.1) = ks := by rfl) (he : starEach (e :: es) X.env = (false, eval e X.env) :: starEach es X.env := by rfl)
    (hpl : ((backTo pos (starEach (e :: es) X.env)).any (·.1) || (backToKw pos (keywordEach kws X.env)).any (·.1.isNone)) = false := by rfl) (ht : eval (.Call (.Attribute o mn apos) (e :: es) kws pos) X.env = (do
      let ov ← eval o X.env
      standAt apos.atName
      let (f, first) ← holding [ov] (getMethod ov mn pl)
      callWith pos f first (backTo pos (starEach (e :: es) X.env)) (backToKw pos (keywordEach kws X.env))) := by rfl) :
    PE X (.Call (.Attribute o mn apos) (e :: es) kws pos) (tMethD C mn n ks.length is dvs sp E ta t tk) := by
  refine ⟨fun pins s σ H Q I h => ?_⟩
  refine PySem.W.methodCall_KW (pl := pl) (thn (hO.run pins s σ H _ I h) fun u s1 ⟨x, H1, I1, rx, a, dx, fs, ex, ea, l, q⟩ => ?_) ht
  subst ex
  obtain rfl : u = Value.ref a := rx
  refine getmeth_ok I1 ea c hm l ?_
  refine PySem.W.callWith_KW (first := [.ref a]) (h₀ := X.base) I.ok.mod.kin hm.kp hall (thn (ha.run pos pins s1 σ H1 _ I1 q) fun us s2 ⟨vs, H2, I2, r, q2⟩ => ?_) hpl he
  refine thn (hkw.run pos pins s2 σ H2 _ I2 q2) fun ws s3 ⟨zs, H3, I3, rz, l1, l2, q3⟩ => ⟨I3.kIn, ?_⟩
  rw [hks]
  exact run_fnD (us := .ref a :: us) (vs := .ref a :: vs) F hr hb (hx σ) I3 (.cons rfl r) rz (congrArg Nat.succ l1) l2 q3
theorem pe_methD0 {pl : Sem Bool} (hO : PE X o ta) (c : Cls X.K C) (hm : Meth X.K C mn f) (F : FnG X.prog X.w X.K X.mg X.base CX k f fd ps sp) (hr : Rm k X.A) (hb : KwD X.K fd ps 1 ks dvs is) (hx : ∀ σ, PassesAt CX X σ (E σ))
    (hkw : PK X kws tk) (hall : (backToKw pos (keywordEach kws X.env)).all (·.1.isSome) = true := by rfl) (hks : (backToKw pos (keywordEach kws X.env)).filterMap (·.1) = ks := by rfl) (hpl : ((backTo pos (starEach [] X.env)).any (·.1) || (backToKw pos (keywordEach kws X.env)).any (·.1.isNone)) = false := by rfl) (ht : eval (.Call (.Attribute o mn apos) [] kws pos) X.env = (do
      let ov ← eval o X.env
      standAt apos.atName
      let (f, first) ← holding [ov] (getMethod ov mn pl)
      callWith pos f first (backTo pos (starEach [] X.env)) (backToKw pos (keywordEach kws X.env))) := by rfl) :
    PE X (.Call (.Attribute o mn apos) [] kws pos) (tMethD C mn 0 ks.length is dvs sp E ta tNil tk) := by
  refine ⟨fun pins s σ H Q I h => ?_⟩
  refine PySem.W.methodCall_KW (pl := pl) (thn (hO.run pins s σ H _ I h) fun u s1 ⟨x, H1, I1, rx, a, dx, fs, ex, ea, l, q⟩ => ?_) ht
  subst ex
  obtain rfl : u = Value.ref a := rx
  refine getmeth_ok I1 ea c hm l ?_
  refine PySem.W.callWith_KW0 (first := [.ref a]) (h₀ := X.base) I.ok.mod.kin hm.kp hall ?_ hpl
  refine thn (hkw.run pos pins s1 σ H1 _ I1 q) fun ws s3 ⟨zs, H3, I3, rz, l1, l2, q3⟩ => ⟨I3.kIn, ?_⟩
  rw [hks]
  exact run_fnD (us := .ref a :: []) (vs := .ref a :: []) F hr hb (hx σ) I3 (.cons rfl .nil) rz rfl l2 q3
end
end Dm
end TxtDm28

section TxtDm29
set_option Elab.async false
set_option linter.all false
set_option maxRecDepth 100000
set_option maxHeartbeats 2000000
/-! Dm29: the mirrors of calls with defaults, of methods, of own classes; fields. -/
namespace Dm
open PySem PySem.Spec PyProof.Rows L2

def dArg (dd : List D) : List Ar := dd.map .inl
def xCalD (m : Fm) (is : List Nat) (dd : List D) (a b : En → Ou (List Ar)) : En → Ou R := fun ρ => (a ρ).bn fun as ρ1 => (b ρ1).bn fun bs ρ2 => calM m (pick is (as ++ bs ++ dArg dd)) ρ2
/-- the receiver of a method of the class c -/
def rcv (c mn : Str) (r : R) (ρ : En) : Option (Ar × En) := match r with
  | .v (.ins c' fs) => if c' = c ∧ (fs.lookup mn).isNone = true then some (.inl (.ins c' fs), ρ) else none
  | .o (.O c' fs) => if c' = c ∧ (fs.lookup mn).isNone = true then some (.inl (.ins c' fs), ρ) else none
  | .s i => (match ρ[i]? with
    | some (some (.v (.ins c' fs))) => if c' = c ∧ (fs.lookup mn).isNone = true then some (.inl (.ins c' fs), ρ) else none
    | some (some (.O c' fs)) => if c' = c ∧ (fs.lookup mn).isNone = true then some (.inr i, ρ) else none
    | _ => none)
  | _ => none
def xMthD (c mn : Str) (m : Fm) (is : List Nat) (dd : List D) (eo : En → Ou R) (a b : En → Ou (List Ar)) : En → Ou R := fun ρ => (eo ρ).bn fun r ρ1 => match rcv c mn r ρ1 with
  | some (ar, ρ2) => (a ρ2).bn fun as ρ3 => (b ρ3).bn fun bs ρ4 => calM m (pick is (ar :: as ++ bs ++ dArg dd)) ρ4
  | none => .st
def mkM (c : Str) (m : Fm) (as : List Ar) (ρ : En) : Ou R := match calM m as (ρ ++ [some (.O c [])]) with
  | .ok (.v .non) ρ' => (match ρ'[ρ.length]? with
    | some (some (.v d)) => .ok (.v d) (ρ'.take ρ.length)
    | some (some c') => .ok (.o c') (ρ'.take ρ.length)
    | _ => .st)
  | .er e ρ' => .er e (ρ'.take ρ.length)
  | _ => .st
def xMakD (c : Str) (m : Fm) (is : List Nat) (dd : List D) (a b : En → Ou (List Ar)) : En → Ou R := fun ρ => (a ρ).bn fun as ρ1 => (b ρ1).bn fun bs ρ2 => mkM c m (pick is (.inr ρ2.length :: as ++ bs ++ dArg dd)) ρ2
section
variable {K : PySem.W.Frag} {cl : Str → Option Addr} {F F' F1 F2 H H' H1 H2 H0 : Hp} {σ σ1 σ2 σ0 : L2.St} {ρ ρ0 ρ1 ρ2 ρb : En} {pn : Nat → Bool} {v x : V} {d : D} {W : WX} {m : Fm} {n : Nat} {is : List Nat} {dvs : List V} {dd : List D} {t tk : TA} {a b : En → Ou (List Ar)}
theorem ev_callD {u v : Nat} (hm : m.Ok) (hD : ∀ F, RepL K cl F dvs dd) (ha : EvL K cl W t a) (hb : EvL K cl W tk b) (hu : gLen u a) (hv : gLen v b) (hn : ∀ as : List Ar, as.length = u + v + dd.length → (pick is as).length = n) :
    EvE K cl W (tCallD u v is dvs (spM K cl n m) (WE W) t tk) (xCalD m is dd a b) := by
  intro F σ H ρ Q S q
  refine ha F σ H ρ _ S ?_
  unfold xCalD at q
  cases e : a ρ with
  | st => rw [e] at q; exact q
  | er y ρ' => rw [e] at q; exact q
  | ok as ρ1 =>
    rw [e, Ou.bn_ok] at q
    intro xs F1 H1 S1 s1 r
    refine hb F1 σ H1 ρ1 _ S1 ?_
    cases e2 : b ρ1 with
    | st => simp only [e2, Ou.bn_st] at q; exact q
    | er y ρ' => simp only [e2, Ou.bn_er] at q; exact fun c d F' H' S' s' er => q c d F' H' S' (s1.trans s') er
    | ok bs ρ2 =>
      simp only [e2, Ou.bn_ok] at q
      intro ys F2 H2 S2 s2 r2
      have l1 := hu ρ as ρ1 e
      have l2 := hv ρ1 bs ρ2 e2
      refine ⟨by rw [r.length, l1], by rw [r2.length, l2], ?_⟩
      exact cal_run hm S2 (RelA.pick (((r.mono s2.mono).app r2).app (RelA.vals (hD F2))) is) (hn _ (by simp [l1, l2]; omega)) (PstE.from (s1.trans s2) q)
theorem lookup_none {κ α β : Type} [BEq κ] [LawfulBEq κ] {kvs : List (κ × α)} {es : List (κ × β)} (h : kvs.map (·.1) = es.map (·.1)) (k : κ) (e : (es.lookup k).isNone = true) : kvs.lookup k = none := by
  induction kvs generalizing es with
  | nil => rfl
  | cons p kvs ih =>
    cases es with
    | nil => simp at h
    | cons q es =>
      simp only [List.map_cons, List.cons.injEq] at h
      obtain ⟨p1, p2⟩ := p
      obtain ⟨q1, q2⟩ := q
      simp only at h
      rw [List.lookup_cons] at e ⊢
      rw [h.1]
      cases hk : k == q1 with
      | true => rw [hk] at e; cases e
      | false => rw [hk] at e; exact ih h.2 e
theorem rcv_ok {c mn : Str} {r : R} {ar : Ar} {F0 : Hp} (S : Sta K cl F σ H ρ) (st : Stp pn σ0 ρ0 F0 H0 σ ρ F H) (s0 : Sub F0 H0) (h : RelR K cl σ0 ρ0 H0 σ ρ F H x r) (e : rcv c mn r ρ = some (ar, ρ1)) :
    ∃ F', Sta K cl F' σ H ρ1 ∧ Stp pn σ0 ρ0 F0 H0 σ ρ1 F' H ∧ RelA K cl F' σ [x] [ar] ∧ ∃ a C dx gs, x = .ref a ∧ cl c = some C ∧ H a = some (.ins C dx gs) ∧ gs.lookup mn = none := by
  cases r with
  | v d =>
    cases d with
    | ins c' fs =>
      simp only [rcv] at e
      split at e
      · rename_i hc
        cases e
        obtain ⟨rfl, hl⟩ := hc
        refine ⟨F, S, st, .inl h .nil, ?_⟩
        cases (show Rep K cl F x (.ins c' fs) from h) with
        | @ins a A dx c gs fs hc ha l r => exact ⟨a, A, dx, gs, rfl, hc, sub_not S.sub (fun z => z) ha, lookup_none l mn hl⟩
      · cases e
    | _ => cases e
  | o c2 =>
    cases c2 with
    | O c' fs =>
      simp only [rcv] at e
      split at e
      · rename_i hc
        cases e
        obtain ⟨rfl, hl⟩ := hc
        obtain ⟨F', S', st', rp⟩ := toVal_ok S st s0 h (d := .ins c' fs) rfl
        refine ⟨F', S', st', .inl rp .nil, ?_⟩
        cases rp with
        | @ins a A dx c gs fs hc ha l r => exact ⟨a, A, dx, gs, rfl, hc, sub_not S'.sub (fun z => z) ha, lookup_none l mn hl⟩
      · cases e
    | _ => cases e
  | s i =>
    have h' : σ[i]? = some (some x) := h
    simp only [rcv] at e
    split at e
    · rename_i c' fs q
      split at e
      · rename_i hc
        cases e
        obtain ⟨rfl, hl⟩ := hc
        obtain ⟨y, e1, e2⟩ := S.val i _ q
        rw [h'] at e1; cases e1
        refine ⟨F, S, st, .inl e2 .nil, ?_⟩
        cases e2 with
        | @ins a A dx c gs fs hc ha l r => exact ⟨a, A, dx, gs, rfl, hc, sub_not S.sub (fun z => z) ha, lookup_none l mn hl⟩
      · cases e
    · rename_i c' fs q
      split at e
      · rename_i hc
        cases e
        obtain ⟨rfl, hl⟩ := hc
        obtain ⟨p, o, e1, e2, e3, A, dx, gs, rfl, hc, rk⟩ := S.own i _ q rfl
        rw [h'] at e1; cases e1
        exact ⟨F, S, st, .inr h' .nil, p, A, dx, gs, rfl, hc, e3, lookup_none rk.1 mn hl⟩
      · cases e
    · cases e
theorem ev_methD {c mn : Str} {C : Addr} {u v : Nat} {to : TE} {eo : En → Ou R} (hcl : cl c = some C) (hm : m.Ok) (hD : ∀ F, RepL K cl F dvs dd) (hO : EvE K cl W to eo) (ha : EvL K cl W t a) (hb : EvL K cl W tk b) (hu : gLen u a) (hv : gLen v b)
    (hn : ∀ as : List Ar, as.length = u + 1 + v + dd.length → (pick is as).length = n) : EvE K cl W (tMethD C mn u v is dvs (spM K cl n m) (WE W) to t tk) (xMthD c mn m is dd eo a b) := by
  intro F σ H ρ Q S q
  refine hO.then (P := PstE K cl W Q σ ρ F H) S q (fun z => z) (fun _ _ z => z) fun r ρ1 q x F1 H1 S1 s1 rel => ?_
  cases e0 : rcv c mn r ρ1 with
  | none => rw [e0] at q; exact q.elim
  | some p =>
    obtain ⟨ar, ρ2⟩ := p
    rw [e0] at q
    simp only at q
    obtain ⟨F2, S2, s2, ra, a', C', dx, gs, rfl, hc, hh, hl⟩ := rcv_ok S1 s1 S.sub rel e0
    rw [hcl] at hc; cases hc
    refine ⟨a', dx, gs, rfl, hh, hl, ha F2 σ H1 ρ2 _ S2 ?_⟩
    cases e : a ρ2 with
    | st => simp only [e, Ou.bn_st] at q; exact q
    | er y ρ' => simp only [e, Ou.bn_er] at q; exact fun c d F' H' S' s' er => q c d F' H' S' (s2.trans s') er
    | ok as ρ3 =>
      simp only [e, Ou.bn_ok] at q
      intro xs F3 H3 S3 s3 r3
      refine hb F3 σ H3 ρ3 _ S3 ?_
      cases e2 : b ρ3 with
      | st => simp only [e2, Ou.bn_st] at q; exact q
      | er y ρ' => simp only [e2, Ou.bn_er] at q; exact fun c d F' H' S' s' er => q c d F' H' S' (s2.trans (s3.trans s')) er
      | ok bs ρ4 =>
        simp only [e2, Ou.bn_ok] at q
        intro ys F4 H4 S4 s4 r4
        have l1 := hu ρ2 as ρ3 e
        have l2 := hv ρ3 bs ρ4 e2
        refine ⟨by rw [r3.length, l1], by rw [r4.length, l2], ?_⟩
        have s34 := s3.trans s4
        exact cal_run hm S4 (RelA.pick ((((ra.mono s34.mono).app (r3.mono s4.mono)).app r4).app (RelA.vals (hD F4))) is) (hn _ (by simp [l1, l2]; omega)) (PstE.from (s2.trans s34) q)
theorem ev_makeD {c : Str} {C : Addr} {u v : Nat} (hcl : cl c = some C) (hm : m.Ok) (hD : ∀ F, RepL K cl F dvs dd) (ha : EvL K cl W t a) (hb : EvL K cl W tk b) (hu : gLen u a) (hv : gLen v b) (hn : ∀ as : List Ar, as.length = u + 1 + v + dd.length → (pick is as).length = n) :
    EvE K cl W (tMakeD C u v is dvs (spM K cl n m) (WE W) t tk) (xMakD c m is dd a b) := by
  intro F σ H ρ Q S q
  refine ha F σ H ρ _ S ?_
  unfold xMakD at q
  cases e : a ρ with
  | st => rw [e] at q; exact q
  | er y ρ' => rw [e] at q; exact q
  | ok as ρ1 =>
    rw [e, Ou.bn_ok] at q
    intro xs F1 H1 S1 s1 r
    refine hb F1 σ H1 ρ1 _ S1 ?_
    cases e2 : b ρ1 with
    | st => simp only [e2, Ou.bn_st] at q; exact q
    | er y ρ' => simp only [e2, Ou.bn_er] at q; exact fun c d F' H' S' s' er => q c d F' H' S' (s1.trans s') er
    | ok bs ρ2 =>
      simp only [e2, Ou.bn_ok] at q
      intro ys F2 H2 S2 s2 r2
      have l1 := hu ρ as ρ1 e
      have l2 := hv ρ1 bs ρ2 e2
      refine ⟨by rw [r.length, l1], by rw [r2.length, l2], fun p dx hp hd hne => ?_⟩
      have g1 : Grow F2 H2 F2 (upd H2 dx (.own p)) := Grow.new S2.sub hd
      have hp1 : upd H2 dx (.own p) p = none := by rw [upd_ne hne.symm]; exact hp
      have g2 : Grow F2 (upd H2 dx (.own p)) F2 (upd (upd H2 dx (.own p)) p (.ins C dx [])) := Grow.new g1.sub hp1
      generalize hH : upd (upd H2 dx (.own p)) p (.ins C dx []) = H3 at g2
      have hh3 : H3 p = some (.ins C dx []) := by rw [← hH]; exact upd_same
      have S3 := g2.sta (g1.sta S2)
      have s3 := ((s1.trans s2).trans g1.stp).trans g2.stp
      have hl : ρ2.length = σ.length := S2.len
      have nn : ¬ OwnS σ ρ2 p := fun ⟨i, c, b1, b2, b3⟩ => by
        obtain ⟨p', o, c1, _, c3, _⟩ := S2.own i c b1 b2
        rw [b3] at c1; cases c1
        rw [hp] at c3; cases c3
      have fp : F2 p = none := sub_none S2.sub hp
      have hs : OwnS σ ρ p ∨ H p = none := .inr ((s1.trans s2).non0 hp)
      have Sp := S3.plus (c := .O c []) rfl fp hh3 ⟨C, dx, [], rfl, hcl, RepKs.nil⟩ nn
      have m2 : ∀ a o, F1 a = some o → F2 a = some o := s2.mono
      have ra : RelA K cl F2 (σ ++ [some (.ref p)]) (.ref p :: xs ++ ys ++ dvs) (.inr ρ2.length :: as ++ bs ++ dArg dd) :=
        ((RelA.inr (app_last hl) (r.mono m2).plus).app r2.plus).app (RelA.vals (hD F2))
      refine cal_run (W := fun c d _ H' => W c d σ H') hm Sp (RelA.pick ra is) (hn _ (by simp [l1, l2, dArg]; omega)) ?_
      unfold mkM at q
      cases e3 : calM m (pick is (.inr ρ2.length :: as ++ bs ++ dArg dd)) (ρ2 ++ [some (.O c [])]) with
      | st => rw [e3] at q; exact q
      | er y ρ' =>
        rw [e3] at q
        exact fun c d F' H' S' s' er => q c d F' H' (S'.minus hl) (s3.temp s' hl hl hs) er
      | ok r3 ρ' =>
        rw [e3] at q
        intro z F' H' S' s' rr
        cases r3 with
        | s i => exact q.elim
        | o c' => exact q.elim
        | v d =>
          cases d with
          | non =>
            cases (show Rep K cl F' z .non from rr)
            refine ⟨rfl, ?_⟩
            simp only at q
            have s5 := s3.temp s' hl hl hs
            have S5 := S'.minus hl
            have e5 : (σ ++ [some (V.ref p)])[ρ2.length]? = some (some (.ref p)) := app_last hl
            split at q
            · rename_i d hd2
              obtain ⟨y, f1, f2⟩ := S'.val _ _ hd2
              rw [e5] at f1; cases f1
              exact q _ F' H' S5 s5 f2
            · rename_i c' hne2 hc2
              have own : c'.own = true := by
                cases c' with
                | v d => exact absurd rfl (hne2 d)
                | _ => rfl
              obtain ⟨p', o', f1, f2, f3, f4⟩ := S'.own _ _ hc2 own
              rw [e5] at f1; cases f1
              refine q _ F' H' S5 s5 ⟨p, o', rfl, own, f2, f3, f4, fun ⟨i, ci, b1, b2, b3⟩ => ?_, hs⟩
              obtain ⟨hi, b1⟩ := take_some b1
              have := S'.sep i ρ2.length ci c' p b1 hc2 b2 own (by rw [app0 (by omega)]; exact b3) e5
              omega
            · exact q.elim
          | _ => exact q.elim
end
end Dm
end TxtDm29

section TxtDm30
set_option Elab.async false
set_option linter.all false
set_option maxRecDepth 100000
set_option maxHeartbeats 2000000
/-! Dm30: fields of instances; isinstance with own classes; the rules of calls. -/
namespace Dm
open PySem PySem.Spec PyProof.Rows L2

/-! ### fields -/
def ClF (cl : Str → Option Addr) (K : PySem.W.Frag) (f : Str) : Prop := ∀ c A, cl c = some A → isX c = false → Cls K A ∧ NoAttr K A f
def fldD (f : Str) : D → Option R
  | .ins c fs => if isX c then none else (fs.lookup f).map .v
  | _ => none
def putFD (f : Str) (d : D) : List (Str × D) → List (Str × D)
  | [] => [(f, d)]
  | (k, x) :: r => if k = f then (k, d) :: r else (k, x) :: putFD f d r
section
variable {K : PySem.W.Frag} {cl : Str → Option Addr} {F H : Hp}
theorem RepKs.look {κ : Type} [BEq κ] [LawfulBEq κ] {kvs : List (κ × V)} {es : List (κ × D)} (r : RepKs K cl F kvs es) {k : κ} {d : D} (h : es.lookup k = some d) : ∃ v, kvs.lookup k = some v ∧ Rep K cl F v d := by
  refine r.ind (P := fun kvs es => ∀ {d : D}, es.lookup k = some d → ∃ v, kvs.lookup k = some v ∧ Rep K cl F v d) (fun h => by cases h) (fun p q kvs es e hr _ ih d h => ?_) h
  obtain ⟨p1, p2⟩ := p
  obtain ⟨q1, q2⟩ := q
  simp only at e
  subst e
  rw [List.lookup_cons] at h ⊢
  cases hk : k == p1 with
  | true => rw [hk] at h; cases h; exact ⟨p2, rfl, hr⟩
  | false => rw [hk] at h; exact ih h
theorem RepKs.putF {gs : List (Str × V)} {fs : List (Str × D)} {f : Str} {v : V} {d : D} (r : RepKs K cl F gs fs) (h : Rep K cl F v d) : RepKs K cl F (L2.putF f v gs) (putFD f d fs) := by
  refine r.ind (P := fun gs fs => RepKs K cl F (L2.putF f v gs) (putFD f d fs)) (RepKs.cons rfl h RepKs.nil) fun p q kvs es e hr t ih => ?_
  obtain ⟨p1, p2⟩ := p
  obtain ⟨q1, q2⟩ := q
  simp only at e
  subst e
  show RepKs K cl F (if p1 = f then (p1, v) :: kvs else (p1, p2) :: L2.putF f v kvs) (if p1 = f then (p1, d) :: es else (p1, q2) :: putFD f d es)
  by_cases hk : p1 = f
  · rw [if_pos hk, if_pos hk]
    exact RepKs.cons rfl h t
  · rw [if_neg hk, if_neg hk]
    exact RepKs.cons rfl hr ih
def rFld (K : PySem.W.Frag) (f : Str) : V → Hp → VK → Prop := fun x H Q => ∃ a C dx fs v, x = .ref a ∧ H a = some (.ins C dx fs) ∧ Cls K C ∧ NoAttr K C f ∧ fs.lookup f = some v ∧ Q v H
theorem rs_fld {f : Str} (hf : ClF cl K f) : RS1 K cl (rFld K f) (fldD f) := by
  intro F H x a out s ha e Q q
  cases a with
  | ins c fs =>
    obtain ⟨p, A, dx, gs, rfl, hc, hh, r⟩ := ha
    simp only [fldD] at e
    split at e
    · cases e
    rename_i hx
    obtain ⟨d, e1, rfl⟩ := Option.map_eq_some_iff.mp e
    obtain ⟨v, e2, rv⟩ := r.look e1
    obtain ⟨k1, k2⟩ := hf c A hc (by simpa using hx)
    exact ⟨p, A, dx, gs, v, rfl, hh, k1, k2, e2, q _ F H (Grow.refl s) rv⟩
  | _ => cases e
end
/-- name.f = e, the name's slot i owns the instance -/
def sFldX (i : Nat) (f : Str) (ex : En → Ou R) : En → Ou Fl := fun ρ => (vl ex ρ).bn fun d ρ1 => match ρ1[i]? with
  | some (some (.O c fs)) => if fs.length < 1000 ∧ isX c = false then .ok .nx (ρ1.set i (some (.O c (putFD f d fs)))) else .st
  | _ => .st
section
variable {K : PySem.W.Frag} {cl : Str → Option Addr} {W : WX} {pn : Nat → Bool}
theorem ev_sfld {i : Nat} {f : Str} {tv : TE} {ex : En → Ou R} (hf : ClF cl K f) (h : EvE K cl W tv ex) : EvS K cl pn W (sFld K (tVar i) tv f) (sFldX i f ex) := by
  intro F σ H ρ D S q
  refine h.val.then (P := PstS K cl pn W D σ ρ F H) S q (fun z => z) (fun y ρ' q c d F' H' S' s' er => q c d σ F' H' S' s'.wk er) fun d ρ1 q x F1 H1 S1 s1 r => ?_
  split at q
  · rename_i c fs hi
    split at q
    · rename_i hl
      obtain ⟨p, o, e1, e2, e3, A, dx, gs, rfl, hc, rk⟩ := S1.own i _ hi rfl
      obtain ⟨k1, k2⟩ := hf c A hc hl.2
      have l2 : gs.length = fs.length := RepKs.length rk
      have ha : OwnAt K cl F1 (.ins A dx (putF f x gs)) (.O c (putFD f d fs)) := ⟨A, dx, _, rfl, hc, rk.putF r⟩
      obtain ⟨S2, s2⟩ := write_ok (pn := pn) S1 hi rfl e1 (c' := .O c (putFD f d fs)) rfl ha
      exact ⟨_, e1, p, A, dx, gs, rfl, e3, k1, k2, by have := hl.1; omega, q σ F1 _ S2 (s1.wk.trans s2)⟩
    · exact q.elim
  · exact q.elim
end
section
variable {cl : Str → Option Addr} {X : Cx} {e o value : Expr} {ex eo : En → Ou R} {f x : Str} {pos pos' tpos p2 : Pos} {pn : Nat → Bool}
theorem ee_fld (hf : ClF cl X.K f) (h : EE cl X e ex) (hb : attributeBase e f X.env (eval e X.env) = eval e X.env := by rfl) : EE cl X (.Attribute e f pos) (xUn (fldD f) ex) := fun W tk =>
  let ⟨_, p, v⟩ := h W tk; ⟨_, pe_fld p hb, ev_un (r := rFld X.K f) (rs_fld hf) v⟩
theorem es_fld (i : Nat) (hf : ClF cl X.K f) (h : EE cl X value ex) (hN : X.N[i]? = some x := by rfl) (hv : Vis X.env.scope x := by first | exact Or.inl rfl | exact Or.inr (Or.inl rfl) | exact Or.inr (Or.inr rfl)) (hd : (x == ("__debug__" : Str)) = false := by decide)
    (hcd : (x == ("__classdict__" : Str)) = false := by decide) (hs : swapsWith value (some (.Attribute (.Name x p2) f pos')) pos.line X.env = pure false := by rfl) : ES cl pn X (.Assign [.Attribute (.Name x p2) f pos'] value pos) (sFldX i f ex) := fun W tk =>
  let ⟨_, p, v⟩ := h W tk; ⟨_, ps_fld (pe_var hN hv hd hcd) p hs, ev_sfld hf v⟩
end
/-! ### isinstance -/
structure InK (K : PySem.W.Frag) (C : Addr) : Prop where
  cl : Cls K C
  ha : PySem.W.findIn K (.ref C) "__class__" = some (some (.builtin "object.__class__"))
  hn : PySem.W.specialIn K (.builtin "object.__class__") "__get__" = some (some (.builtin "getset_descriptor.__get__"))
  ht : PySem.W.takesIn K (.builtin "object.__class__") = some true
  hm : PySem.W.mroIn K C (.type "object") = some true
structure IsiF (K : PySem.W.Frag) (cl : Str → Option Addr) : Prop where
  ins : ∀ c A, cl c = some A → isX c = false → InK K A
  ty1 : ∀ c A, cl c = some A → isX c = false → ∀ a ∈ kinds, PySem.W.kitOne K (.type a) (.ref A) = some false
  ty2 : ∀ c A, cl c = some A → isX c = false → ∀ b ∈ kinds.tail, PySem.W.kitOne K (.ref A) (.type b) = some false
  own : ∀ c A c' A', cl c = some A → cl c' = some A' → isX c = false → isX c' = false → PySem.W.kitOne K (.ref A) (.ref A') = some (c == c')
def isiA : List D → Option R
  | [.ins c _, .ty n] => if kinds.tail.contains n && !isX c then some (.v (.bl false)) else none
  | [.ins c _, .cls c'] => if isX c || isX c' then none else some (.v (.bl (c == c')))
  | [d, .cls c'] => if isX c' then none else match tyD d with
    | some _ => some (.v (.bl false))
    | none => none
  | ds => isiD ds
theorem rs_isiA {K : PySem.W.Frag} {cl : Str → Option Addr} (I : IsiF K cl) : RSn K cl (rIsi K) isiA := by
  intro F H xs ds out s hp e Q q
  unfold isiA at e
  split at e
  · rename_i c fs n
    obtain ⟨x, y, rfl, h, h'⟩ := hp.two
    cases h'
    obtain ⟨a, A, dx, gs, rfl, hc, hh, r⟩ := h
    split at e
    · rename_i hn
      cases e
      rw [Bool.and_eq_true] at hn
      have hx : isX c = false := by simpa using hn.2
      have k := I.ins c A hc hx
      exact ⟨_, .ty n, .ref A, .type n, false, rfl, .ty n, .base (.ins hh k.cl k.ha k.hn k.ht k.hm), I.ty2 c A hc hx n (by simpa using hn.1), q _ F H (Grow.refl s) (.bl _)⟩
    · cases e
  · rename_i c fs c'
    obtain ⟨x, y, rfl, h, h'⟩ := hp.two
    obtain ⟨A', rfl, hA'⟩ := h'
    obtain ⟨a, A, dx, gs, rfl, hc, hh, r⟩ := h
    split at e
    · cases e
    · rename_i hx
      cases e
      have hx1 : isX c = false ∧ isX c' = false := by simpa using hx
      have k := I.ins c A hc hx1.1
      exact ⟨_, .ref A', .ref A, .ref A', c == c', rfl, .own A', .base (.ins hh k.cl k.ha k.hn k.ht k.hm), I.own c A c' A' hc hA' hx1.1 hx1.2, q _ F H (Grow.refl s) (.bl _)⟩
  · rename_i d c' _
    obtain ⟨x, y, rfl, h, h'⟩ := hp.two
    obtain ⟨A', rfl, hA'⟩ := h'
    split at e
    · cases e
    rename_i hx
    split at e
    · rename_i t ht
      cases e
      have := tyD_in ht
      exact ⟨x, .ref A', .type t, .ref A', false, rfl, .own A', tyX_of h ht, I.ty1 c' A' hA' (by simpa using hx) t (by simpa using this), q _ F H (Grow.refl s) (.bl _)⟩
    · cases e
  · exact rs_isi F H xs ds out s hp e Q q
/-! ### calls -/
/-- a def, as its callers know it, whatever holds it -/
structure CalF (P : Program) (w : World) (K : PySem.W.Frag) (mg : Str → Option Value) (base : Heap) (cl : Str → Option Addr) (k n : Nat) (m : Fm) (f : Addr) (fd : FuncData) (ps : List Str) : Prop where
  fn : FnG P w K mg base (L2.CX P w) k f fd ps (spM K cl n m)
  len : ps.length = n
  ok : m.Ok
theorem Cal.f {P : Program} {w : World} {K : PySem.W.Frag} {mg : Str → Option Value} {base : Heap} {cl : Str → Option Addr} {x : Str} {k n : Nat} {m : Fm} {f : Addr} {fd : FuncData} {ps : List Str} (G : Cal P w K mg base cl x k n m f fd ps) : CalF P w K mg base cl k n m f fd ps := ⟨G.fn, G.len, G.ok⟩
/-- what the defaults stand for -/
structure Dfl (K : PySem.W.Frag) (cl : Str → Option Addr) (fd : FuncData) (ps : List Str) (n : Nat) (ks : List Str) (dd : List D) (is : List Nat) : Prop where
  ex : ∃ dvs : List V, (∀ F, RepL K cl F dvs dd) ∧ KwD K fd ps n ks dvs is
section
variable {cl : Str → Option Addr} {X : Cx} {e o : Expr} {es : List Expr} {ex eo : En → Ou R} {er ek : En → Ou (List Ar)} {pos p apos : Pos} {x mn c : Str} {kws : List Keyword} {k j n u v : Nat} {m : Fm} {f C : Addr} {fd : FuncData} {ps ks : List Str} {is : List Nat} {dd : List D}
theorem pickN {l : List Ar} {N : Nat} (hi : ∀ i ∈ is, i < N) (hn : is.length = n) (hl : l.length = N) : (pick is l).length = n := by rw [pick_len hl hi, hn]
theorem ee_callD (G : Cal X.prog X.w X.K X.mg X.base cl x k n m f fd ps) (hr : Rm j X.A) (ha : EL cl X (e :: es) er) (hkw : EKw cl X kws ek) (hu : gLen u er) (hv : gLen v ek) (hb : Dfl X.K cl fd ps u ks dd is) (hn : is.length = n := by rfl) (hi : ∀ i ∈ is, i < u + v + dd.length := by decide) (hvk : ks.length = v := by rfl) (hj : k ≤ j := by decide)
    (hg : Gl X x := by rfl) (hall : (backToKw pos (keywordEach kws X.env)).all (·.1.isSome) = true := by rfl) (hks : (backToKw pos (keywordEach kws X.env)).filterMap (·.1) = ks := by rfl) (hdb : (x == ("__debug__" : Str)) = false := by decide)
    (he : starEach (e :: es) X.env = (false, eval e X.env) :: starEach es X.env := by rfl) (hpl : ((backTo pos (starEach (e :: es) X.env)).any (·.1) || (backToKw pos (keywordEach kws X.env)).any (·.1.isNone)) = false := by rfl) :
    EE cl X (.Call (.Name x p) (e :: es) kws pos) (xCalD m is dd er ek) := fun W tk => by
  obtain ⟨t, pp, vv⟩ := ha W tk
  obtain ⟨t2, pp2, vv2⟩ := hkw W tk
  obtain ⟨dvs, hD, hb⟩ := hb.ex
  subst hvk
  exact ⟨_, pe_callD (E := WE W) G.fn (hr.mono hj) hg G.mg G.kp hb (fun σ => passAt tk σ) pp pp2 hall hks hdb he hpl, ev_callD G.ok hD vv vv2 hu hv fun as hl => pickN hi hn hl⟩
theorem ee_callD0 (G : Cal X.prog X.w X.K X.mg X.base cl x k n m f fd ps) (hr : Rm j X.A) (hkw : EKw cl X kws ek) (hv : gLen v ek) (hb : Dfl X.K cl fd ps 0 ks dd is) (hn : is.length = n := by rfl) (hi : ∀ i ∈ is, i < 0 + v + dd.length := by decide) (hvk : ks.length = v := by rfl) (hj : k ≤ j := by decide)
    (hg : Gl X x := by rfl) (hall : (backToKw pos (keywordEach kws X.env)).all (·.1.isSome) = true := by rfl) (hks : (backToKw pos (keywordEach kws X.env)).filterMap (·.1) = ks := by rfl) (hdb : (x == ("__debug__" : Str)) = false := by decide)
    (hpl : ((backTo pos (starEach [] X.env)).any (·.1) || (backToKw pos (keywordEach kws X.env)).any (·.1.isNone)) = false := by rfl) :
    EE cl X (.Call (.Name x p) [] kws pos) (xCalD m is dd gNil ek) := fun W tk => by
  obtain ⟨t2, pp2, vv2⟩ := hkw W tk
  obtain ⟨dvs, hD, hb⟩ := hb.ex
  subst hvk
  exact ⟨_, pe_callD0 (E := WE W) G.fn (hr.mono hj) hg G.mg G.kp hb (fun σ => passAt tk σ) pp2 hall hks hdb hpl, ev_callD G.ok hD ev_gNil vv2 gLen_nil hv fun as hl => pickN hi hn hl⟩
theorem ee_makeD (hcl : cl c = some C) (M : Mk X.K C f) (hm : X.mg x = some (.ref C)) (G : CalF X.prog X.w X.K X.mg X.base cl k n m f fd ps) (hr : Rm j X.A) (ha : EL cl X (e :: es) er) (hkw : EKw cl X kws ek) (hu : gLen u er) (hv : gLen v ek) (hb : Dfl X.K cl fd ps (u + 1) ks dd is) (hn : is.length = n := by rfl)
    (hi : ∀ i ∈ is, i < u + 1 + v + dd.length := by decide) (hvk : ks.length = v := by rfl) (hj : k + 1 ≤ j := by decide)
    (hg : Gl X x := by rfl) (hall : (backToKw pos (keywordEach kws X.env)).all (·.1.isSome) = true := by rfl) (hks : (backToKw pos (keywordEach kws X.env)).filterMap (·.1) = ks := by rfl) (hdb : (x == ("__debug__" : Str)) = false := by decide)
    (he : starEach (e :: es) X.env = (false, eval e X.env) :: starEach es X.env := by rfl) (hpl : ((backTo pos (starEach (e :: es) X.env)).any (·.1) || (backToKw pos (keywordEach kws X.env)).any (·.1.isNone)) = false := by rfl) :
    EE cl X (.Call (.Name x p) (e :: es) kws pos) (xMakD c m is dd er ek) := fun W tk => by
  obtain ⟨t, pp, vv⟩ := ha W tk
  obtain ⟨t2, pp2, vv2⟩ := hkw W tk
  obtain ⟨dvs, hD, hb⟩ := hb.ex
  subst hvk
  exact ⟨_, pe_makeD (E := WE W) M G.fn (hr.mono hj) hg hm hb (fun σ => passAt tk σ) pp pp2 hall hks hdb he hpl, ev_makeD hcl G.ok hD vv vv2 hu hv fun as hl => pickN hi hn hl⟩
theorem ee_makeD0 (hcl : cl c = some C) (M : Mk X.K C f) (hm : X.mg x = some (.ref C)) (G : CalF X.prog X.w X.K X.mg X.base cl k n m f fd ps) (hr : Rm j X.A) (hkw : EKw cl X kws ek) (hv : gLen v ek) (hb : Dfl X.K cl fd ps 1 ks dd is) (hn : is.length = n := by rfl)
    (hi : ∀ i ∈ is, i < 0 + 1 + v + dd.length := by decide) (hvk : ks.length = v := by rfl) (hj : k + 1 ≤ j := by decide)
    (hg : Gl X x := by rfl) (hall : (backToKw pos (keywordEach kws X.env)).all (·.1.isSome) = true := by rfl) (hks : (backToKw pos (keywordEach kws X.env)).filterMap (·.1) = ks := by rfl) (hdb : (x == ("__debug__" : Str)) = false := by decide)
    (hpl : ((backTo pos (starEach [] X.env)).any (·.1) || (backToKw pos (keywordEach kws X.env)).any (·.1.isNone)) = false := by rfl) :
    EE cl X (.Call (.Name x p) [] kws pos) (xMakD c m is dd gNil ek) := fun W tk => by
  obtain ⟨t2, pp2, vv2⟩ := hkw W tk
  obtain ⟨dvs, hD, hb⟩ := hb.ex
  subst hvk
  exact ⟨_, pe_makeD0 (E := WE W) M G.fn (hr.mono hj) hg hm hb (fun σ => passAt tk σ) pp2 hall hks hdb hpl, ev_makeD hcl G.ok hD ev_gNil vv2 gLen_nil hv fun as hl => pickN hi hn hl⟩
theorem ee_methD {pl : Sem Bool} (hcl : cl c = some C) (hC : Cls X.K C) (hm : Meth X.K C mn f) (G : CalF X.prog X.w X.K X.mg X.base cl k n m f fd ps) (hr : Rm j X.A) (hO : EE cl X o eo) (ha : EL cl X (e :: es) er) (hkw : EKw cl X kws ek) (hu : gLen u er) (hv : gLen v ek) (hb : Dfl X.K cl fd ps (u + 1) ks dd is) (hn : is.length = n := by rfl)
    (hi : ∀ i ∈ is, i < u + 1 + v + dd.length := by decide) (hvk : ks.length = v := by rfl) (hj : k ≤ j := by decide)
    (hall : (backToKw pos (keywordEach kws X.env)).all (·.1.isSome) = true := by rfl) (hks : (backToKw pos (keywordEach kws X.env)).filterMap (·.1) = ks := by rfl)
    (he : starEach (e :: es) X.env = (false, eval e X.env) :: starEach es X.env := by rfl) (hpl : ((backTo pos (starEach (e :: es) X.env)).any (·.1) || (backToKw pos (keywordEach kws X.env)).any (·.1.isNone)) = false := by rfl)
    (ht : eval (.Call (.Attribute o mn apos) (e :: es) kws pos) X.env = (do
      let ov ← eval o X.env
      standAt apos.atName
      let (f, first) ← holding [ov] (getMethod ov mn pl)
      callWith pos f first (backTo pos (starEach (e :: es) X.env)) (backToKw pos (keywordEach kws X.env))) := by rfl) :
    EE cl X (.Call (.Attribute o mn apos) (e :: es) kws pos) (xMthD c mn m is dd eo er ek) := fun W tk => by
  obtain ⟨t0, pp0, vv0⟩ := hO W tk
  obtain ⟨t, pp, vv⟩ := ha W tk
  obtain ⟨t2, pp2, vv2⟩ := hkw W tk
  obtain ⟨dvs, hD, hb⟩ := hb.ex
  subst hvk
  exact ⟨_, pe_methD (E := WE W) pp0 hC hm G.fn (hr.mono hj) hb (fun σ => passAt tk σ) pp pp2 hall hks he hpl ht, ev_methD hcl G.ok hD vv0 vv vv2 hu hv fun as hl => pickN hi hn hl⟩
theorem ee_methD0 {pl : Sem Bool} (hcl : cl c = some C) (hC : Cls X.K C) (hm : Meth X.K C mn f) (G : CalF X.prog X.w X.K X.mg X.base cl k n m f fd ps) (hr : Rm j X.A) (hO : EE cl X o eo) (hkw : EKw cl X kws ek) (hv : gLen v ek) (hb : Dfl X.K cl fd ps 1 ks dd is) (hn : is.length = n := by rfl)
    (hi : ∀ i ∈ is, i < 0 + 1 + v + dd.length := by decide) (hvk : ks.length = v := by rfl) (hj : k ≤ j := by decide)
    (hall : (backToKw pos (keywordEach kws X.env)).all (·.1.isSome) = true := by rfl) (hks : (backToKw pos (keywordEach kws X.env)).filterMap (·.1) = ks := by rfl)
    (hpl : ((backTo pos (starEach [] X.env)).any (·.1) || (backToKw pos (keywordEach kws X.env)).any (·.1.isNone)) = false := by rfl)
    (ht : eval (.Call (.Attribute o mn apos) [] kws pos) X.env = (do
      let ov ← eval o X.env
      standAt apos.atName
      let (f, first) ← holding [ov] (getMethod ov mn pl)
      callWith pos f first (backTo pos (starEach [] X.env)) (backToKw pos (keywordEach kws X.env))) := by rfl) :
    EE cl X (.Call (.Attribute o mn apos) [] kws pos) (xMthD c mn m is dd eo gNil ek) := fun W tk => by
  obtain ⟨t0, pp0, vv0⟩ := hO W tk
  obtain ⟨t2, pp2, vv2⟩ := hkw W tk
  obtain ⟨dvs, hD, hb⟩ := hb.ex
  subst hvk
  exact ⟨_, pe_methD0 (E := WE W) pp0 hC hm G.fn (hr.mono hj) hb (fun σ => passAt tk σ) pp2 hall hks hpl ht, ev_methD hcl G.ok hD vv0 ev_gNil vv2 gLen_nil hv fun as hl => pickN hi hn hl⟩
end
end Dm
end TxtDm30

section TxtDm31
set_option Elab.async false
set_option linter.all false
set_option maxRecDepth 100000
set_option maxHeartbeats 2000000
/-! Dm31: defs with any defaults; one rule or another; receivers as values; len, bool, repr, str of own instances; f-strings. -/
namespace Dm
open PySem PySem.Spec PyProof.Rows L2

theorem funX_mk {K : PySem.W.Frag} {x qual : Str} {st : Stmt} {f : Addr} {oc : Value} {od an : Option Addr} {osl : Array (Option Value)} {dV kV doc pm cdv ct : Value} (l : K.lookup f = some ⟨oc, od, .func (PySem.W.fnOf x qual (defArgs st) (defBody st) (defScope st) dV kV doc pm an cdv ct), osl⟩)
    (c : PySem.W.codeIn K cdv qual = true) (k : PySem.W.keepIn K (.ref f) = true) : FunX K x qual st f (PySem.W.fnOf x qual (defArgs st) (defBody st) (defScope st) dV kV doc pm an cdv ct) := ⟨⟨oc, od, dV, kV, doc, pm, an, cdv, ct, osl, rfl, l, c⟩, k⟩
/-- positional and keyword arguments; no default is wanted -/
theorem kwD_0 {K : PySem.W.Frag} {fd : FuncData} {ps : List Str} {n : Nat} {ks : List Str} {is : List Nat} (h : ∀ us ws : List Value, us.length = n → ws.length = ks.length → bindArgs fd ⟨us, ks.zip ws⟩ = pure (ps.zip (pick is (us ++ ws)))) : KwD K fd ps n ks [] is :=
  ⟨[], .nil, fun s us ws _ l1 l2 => .of_eq (by rw [h us ws l1 l2, List.append_nil])⟩
/-- defaults in the tuple at T -/
theorem kwD_T {K : PySem.W.Frag} {fd : FuncData} {ps : List Str} {n N : Nat} {ks : List Str} {is : List Nat} {T : Addr} {oT : Obj} {its : List Value} {dvs : List V} (lT : K.lookup T = some oT) (oT' : oT.data = .seq its.toArray N) (r : Vals dvs its)
    (h : ∀ us ws : List Value, us.length = n → ws.length = ks.length → ∃ k, bindArgs fd ⟨us, ks.zip ws⟩ = seqItems? (.ref T) >>= k ∧ k (some its.toArray) = pure (ps.zip (pick is (us ++ ws ++ its)))) : KwD K fd ps n ks dvs is :=
  ⟨its, r, fun s us ws X l1 l2 => by
    obtain ⟨k, e1, e2⟩ := h us ws l1 l2
    refine BindsTo.of_looks fun M => ?_
    rw [e1]
    exact looks_items X lT oT' (.of_pure e2)⟩
/-! ### one rule or another -/
def xAlt (e1 e2 : En → Ou R) : En → Ou R := fun ρ => match e1 ρ with
  | .st => e2 ρ
  | r => r
theorem ee_alt {cl : Str → Option Addr} {X : Cx} {e : Expr} {e1 e2 : En → Ou R} (h1 : EE cl X e e1) (h2 : EE cl X e e2) : EE cl X e (xAlt e1 e2) := fun W tk => by
  obtain ⟨t1, p1, v1⟩ := h1 W tk
  obtain ⟨t2, p2, v2⟩ := h2 W tk
  refine ⟨_, PE.or p1 p2, fun F σ H ρ Q S q => ?_⟩
  unfold xAlt at q
  cases e : e1 ρ with
  | st => rw [e] at q; exact .inr (v2 F σ H ρ Q S q)
  | er y ρ' => rw [e] at q; exact .inl (v1 F σ H ρ Q S (by rw [e]; exact q))
  | ok r ρ' => rw [e] at q; exact .inl (v1 F σ H ρ Q S (by rw [e]; exact q))
/-! ### methods whose receiver is only read: it is frozen -/
def rcvV (c mn : Str) (r : R) (ρ : En) : Option (Ar × En) := match toVal r ρ with
  | some (.ins c' fs, ρ') => if c' = c ∧ (fs.lookup mn).isNone = true then some (.inl (.ins c' fs), ρ') else none
  | _ => none
def xMthV (c mn : Str) (m : Fm) (is : List Nat) (dd : List D) (eo : En → Ou R) (a b : En → Ou (List Ar)) : En → Ou R := fun ρ => (eo ρ).bn fun r ρ1 => match rcvV c mn r ρ1 with
  | some (ar, ρ2) => (a ρ2).bn fun as ρ3 => (b ρ3).bn fun bs ρ4 => calM m (pick is (ar :: as ++ bs ++ dArg dd)) ρ4
  | none => .st
section
variable {K : PySem.W.Frag} {cl : Str → Option Addr} {F F' F1 F2 H H' H1 H2 H0 : Hp} {σ σ1 σ2 σ0 : L2.St} {ρ ρ0 ρ1 ρ2 ρb : En} {pn : Nat → Bool} {v x : V} {d : D} {W : WX} {m : Fm} {n : Nat} {is : List Nat} {dvs : List V} {dd : List D} {t tk : TA} {a b : En → Ou (List Ar)}
theorem rcvV_ok {c mn : Str} {r : R} {ar : Ar} {F0 : Hp} (S : Sta K cl F σ H ρ) (st : Stp pn σ0 ρ0 F0 H0 σ ρ F H) (s0 : Sub F0 H0) (h : RelR K cl σ0 ρ0 H0 σ ρ F H x r) (e : rcvV c mn r ρ = some (ar, ρ1)) :
    ∃ F', Sta K cl F' σ H ρ1 ∧ Stp pn σ0 ρ0 F0 H0 σ ρ1 F' H ∧ RelA K cl F' σ [x] [ar] ∧ ∃ a C dx gs, x = .ref a ∧ cl c = some C ∧ H a = some (.ins C dx gs) ∧ gs.lookup mn = none := by
  unfold rcvV at e
  split at e
  · rename_i c' fs ρ' hv
    split at e
    · rename_i hc
      cases e
      obtain ⟨rfl, hl⟩ := hc
      obtain ⟨F', S', st', rp⟩ := toVal_ok S st s0 h hv
      refine ⟨F', S', st', .inl rp .nil, ?_⟩
      cases rp with
      | @ins a A dx c gs fs hc ha l r => exact ⟨a, A, dx, gs, rfl, hc, sub_not S'.sub (fun z => z) ha, lookup_none l mn hl⟩
    · cases e
  · cases e
theorem ev_methV {c mn : Str} {C : Addr} {u v : Nat} {to : TE} {eo : En → Ou R} (hcl : cl c = some C) (hm : m.Ok) (hD : ∀ F, RepL K cl F dvs dd) (hO : EvE K cl W to eo) (ha : EvL K cl W t a) (hb : EvL K cl W tk b) (hu : gLen u a) (hv : gLen v b)
    (hn : ∀ as : List Ar, as.length = u + 1 + v + dd.length → (pick is as).length = n) : EvE K cl W (tMethD C mn u v is dvs (spM K cl n m) (WE W) to t tk) (xMthV c mn m is dd eo a b) := by
  intro F σ H ρ Q S q
  refine hO.then (P := PstE K cl W Q σ ρ F H) S q (fun z => z) (fun _ _ z => z) fun r ρ1 q x F1 H1 S1 s1 rel => ?_
  cases e0 : rcvV c mn r ρ1 with
  | none => rw [e0] at q; exact q.elim
  | some p =>
    obtain ⟨ar, ρ2⟩ := p
    rw [e0] at q
    simp only at q
    obtain ⟨F2, S2, s2, ra, a', C', dx, gs, rfl, hc, hh, hl⟩ := rcvV_ok S1 s1 S.sub rel e0
    rw [hcl] at hc; cases hc
    refine ⟨a', dx, gs, rfl, hh, hl, ha F2 σ H1 ρ2 _ S2 ?_⟩
    cases e : a ρ2 with
    | st => simp only [e, Ou.bn_st] at q; exact q
    | er y ρ' => simp only [e, Ou.bn_er] at q; exact fun c d F' H' S' s' er => q c d F' H' S' (s2.trans s') er
    | ok as ρ3 =>
      simp only [e, Ou.bn_ok] at q
      intro xs F3 H3 S3 s3 r3
      refine hb F3 σ H3 ρ3 _ S3 ?_
      cases e2 : b ρ3 with
      | st => simp only [e2, Ou.bn_st] at q; exact q
      | er y ρ' => simp only [e2, Ou.bn_er] at q; exact fun c d F' H' S' s' er => q c d F' H' S' (s2.trans (s3.trans s')) er
      | ok bs ρ4 =>
        simp only [e2, Ou.bn_ok] at q
        intro ys F4 H4 S4 s4 r4
        have l1 := hu ρ2 as ρ3 e
        have l2 := hv ρ3 bs ρ4 e2
        refine ⟨by rw [r3.length, l1], by rw [r4.length, l2], ?_⟩
        have s34 := s3.trans s4
        exact cal_run hm S4 (RelA.pick ((((ra.mono s34.mono).app (r3.mono s4.mono)).app r4).app (RelA.vals (hD F4))) is) (hn _ (by simp [l1, l2]; omega)) (PstE.from (s2.trans s34) q)
end
section
variable {cl : Str → Option Addr} {X : Cx} {e o : Expr} {es : List Expr} {ex eo : En → Ou R} {er ek : En → Ou (List Ar)} {pos p apos : Pos} {x mn c : Str} {kws : List Keyword} {k j n u v : Nat} {m : Fm} {f C : Addr} {fd : FuncData} {ps ks : List Str} {is : List Nat} {dd : List D}
theorem ee_methV {pl : Sem Bool} (hcl : cl c = some C) (hC : Cls X.K C) (hm : Meth X.K C mn f) (G : CalF X.prog X.w X.K X.mg X.base cl k n m f fd ps) (hr : Rm j X.A) (hO : EE cl X o eo) (ha : EL cl X (e :: es) er) (hkw : EKw cl X kws ek) (hu : gLen u er) (hv : gLen v ek) (hb : Dfl X.K cl fd ps (u + 1) ks dd is) (hn : is.length = n := by rfl)
    (hi : ∀ i ∈ is, i < u + 1 + v + dd.length := by decide) (hvk : ks.length = v := by rfl) (hj : k ≤ j := by decide)
    (hall : (backToKw pos (keywordEach kws X.env)).all (·.1.isSome) = true := by rfl) (hks : (backToKw pos (keywordEach kws X.env)).filterMap (·.1) = ks := by rfl)
    (he : starEach (e :: es) X.env = (false, eval e X.env) :: starEach es X.env := by rfl) (hpl : ((backTo pos (starEach (e :: es) X.env)).any (·.1) || (backToKw pos (keywordEach kws X.env)).any (·.1.isNone)) = false := by rfl)
    (ht : eval (.Call (.Attribute o mn apos) (e :: es) kws pos) X.env = (do
      let ov ← eval o X.env
      standAt apos.atName
      let (f, first) ← holding [ov] (getMethod ov mn pl)
      callWith pos f first (backTo pos (starEach (e :: es) X.env)) (backToKw pos (keywordEach kws X.env))) := by rfl) :
    EE cl X (.Call (.Attribute o mn apos) (e :: es) kws pos) (xMthV c mn m is dd eo er ek) := fun W tk => by
  obtain ⟨t0, pp0, vv0⟩ := hO W tk
  obtain ⟨t, pp, vv⟩ := ha W tk
  obtain ⟨t2, pp2, vv2⟩ := hkw W tk
  obtain ⟨dvs, hD, hb⟩ := hb.ex
  subst hvk
  exact ⟨_, pe_methD (E := WE W) pp0 hC hm G.fn (hr.mono hj) hb (fun σ => passAt tk σ) pp pp2 hall hks he hpl ht, ev_methV hcl G.ok hD vv0 vv vv2 hu hv fun as hl => pickN hi hn hl⟩
theorem ee_methV0 {pl : Sem Bool} (hcl : cl c = some C) (hC : Cls X.K C) (hm : Meth X.K C mn f) (G : CalF X.prog X.w X.K X.mg X.base cl k n m f fd ps) (hr : Rm j X.A) (hO : EE cl X o eo) (hkw : EKw cl X kws ek) (hv : gLen v ek) (hb : Dfl X.K cl fd ps 1 ks dd is) (hn : is.length = n := by rfl)
    (hi : ∀ i ∈ is, i < 0 + 1 + v + dd.length := by decide) (hvk : ks.length = v := by rfl) (hj : k ≤ j := by decide)
    (hall : (backToKw pos (keywordEach kws X.env)).all (·.1.isSome) = true := by rfl) (hks : (backToKw pos (keywordEach kws X.env)).filterMap (·.1) = ks := by rfl)
    (hpl : ((backTo pos (starEach [] X.env)).any (·.1) || (backToKw pos (keywordEach kws X.env)).any (·.1.isNone)) = false := by rfl)
    (ht : eval (.Call (.Attribute o mn apos) [] kws pos) X.env = (do
      let ov ← eval o X.env
      standAt apos.atName
      let (f, first) ← holding [ov] (getMethod ov mn pl)
      callWith pos f first (backTo pos (starEach [] X.env)) (backToKw pos (keywordEach kws X.env))) := by rfl) :
    EE cl X (.Call (.Attribute o mn apos) [] kws pos) (xMthV c mn m is dd eo gNil ek) := fun W tk => by
  obtain ⟨t0, pp0, vv0⟩ := hO W tk
  obtain ⟨t2, pp2, vv2⟩ := hkw W tk
  obtain ⟨dvs, hD, hb⟩ := hb.ex
  subst hvk
  exact ⟨_, pe_methD0 (E := WE W) pp0 hC hm G.fn (hr.mono hj) hb (fun σ => passAt tk σ) pp2 hall hks hpl ht, ev_methV hcl G.ok hD vv0 ev_gNil vv2 gLen_nil hv fun as hl => pickN hi hn hl⟩
end
/-! ### what a built-in asks of an own instance -/
theorem Rm.in1 {k : Nat} {A : Around} (r : Rm (k + 1) A) : Rm k A.in1 := ⟨r.room.in1, r.g⟩
/-- the asked method as the value's own -/
def xSpc (c : Str) (m : Fm) (f : D → Option D) (eo : En → Ou R) : En → Ou R := fun ρ => (eo ρ).bn fun r ρ1 => match toVal r ρ1 with
  | some (.ins c' fs, ρ2) => if c' = c then (calM m [.inl (.ins c' fs)] ρ2).bn (fun r ρ3 => match r with
    | .v d => (match f d with
      | some d' => .ok (.v d') ρ3
      | none => .st)
    | _ => .st) else .st
  | _ => .st
def lenR : D → Option D
  | .int n => if 0 ≤ n ∧ n < 9223372036854775808 then some (.int n) else none
  | _ => none
def boolR : D → Option D
  | .int n => if 0 ≤ n ∧ n < 9223372036854775808 then some (.bl (n != 0)) else none
  | _ => none
def strR : D → Option D
  | .str z => some (.str z)
  | _ => none
/-- the reading: the instance; its method; what is made of the answer -/
def tSpc (C : Addr) (sp : Sp) (E : L2.St → XK) (f : D → Option D) (te : TE) : TE := fun σ H Q => te σ H fun x H1 => ∃ a dx fs, x = .ref a ∧ H1 a = some (.ins C dx fs) ∧ sp [x] H1 (fun y H2 => ∃ d d', f d = some d' ∧ y = vOf d ∧ flatD d = true ∧ flatD d' = true ∧ Q (vOf d') H2) (E σ)
section
variable {X : Cx} {k : Nat} {f C : Addr} {fd : FuncData} {ps : List Str} {sp : Sp} {E : L2.St → XK} {pins : List (Addr × Obj)} {σ : L2.St} {H : Hp} {s : Shared} {a dx : Addr} {fs : List (Str × V)}
/-- the def called with one instance, at some around further in -/
theorem run_at {Q : VK} {A : Around} (F : FnG X.prog X.w X.K X.mg X.base (L2.CX X.prog X.w) k f fd ps sp) (hr : Rm k A) (hE : ∀ (s : Shared) (H : Hp), Env0 X.prog X.w X.K X.mg X.base X.A X.stack s H → Env0 X.prog X.w X.K X.mg X.base A X.stack s H) (hb : Binds X.K fd ps []) (hx : PassesAt (L2.CX X.prog X.w) X σ (E σ))
    (I : Inv X pins σ H s) (h : sp [.ref a] H Q (E σ)) : wpAny (model X.prog X.w) A (call (.ref f) [.ref a]) (EP X pins σ Q) X.xe s := by
  have hl : [V.ref a].length = ps.length := F.len _ _ _ _ h
  have bb := hb s [.ref a] I.kIn (by rw [List.append_nil]; exact hl)
  rw [List.append_nil] at bb
  refine wpAny_call (codeAny_mono (F.run A X.stack s H ⟨[.ref a], []⟩ [.ref a] [.ref a] Q (E σ) hr (hE s H I.env0) bb (.cons rfl .nil) h) fun r s' hq => ?_)
  cases r with
  | error e => exact hx pins H s e s' I hq
  | ok fl =>
    cases fl with
    | ret u => exact I.after hq
    | _ => exact False.elim hq
end
end Dm
end TxtDm31

section TxtDm32
set_option Elab.async false
set_option linter.all false
set_option maxRecDepth 100000
set_option maxHeartbeats 2000000
/-! Dm32: len and repr of own instances; f-strings; ranges as arguments; d.get; displays of dicts; bits; list of a text. -/
namespace Dm
open PySem PySem.Spec PyProof.Rows L2

/-! ### len(x), repr(x), x an own instance -/
/-- one argument -/
def one1 (R : V → Hp → Prop) : List V → Hp → Prop := fun vs H => match vs with
  | [x] => R x H
  | _ => False
theorem one1_of {R : V → Hp → Prop} {vs : List V} {H : Hp} (h : one1 R vs H) : ∃ x, vs = [x] ∧ R x H := by
  match vs, h with
  | [x], h => exact ⟨x, rfl, h⟩
section
variable {X : Cx} {k : Nat} {f C : Addr} {fd : FuncData} {ps : List Str} {sp : Sp} {E : L2.St → XK} {x : Str} {p pos : Pos} {e : Expr} {te : TE}
theorem inst_of {pins : List (Addr × Obj)} {σ : L2.St} {H : Hp} {s : Shared} {a dx : Addr} {fs : List (Str × V)} (I : Inv X pins σ H s) (e : H a = some (.ins C dx fs)) : ∃ ox od, PySem.W.InstAt s.heap a ox C od := by
  obtain ⟨mA, O, _⟩ := ins_get I.hok e
  obtain ⟨od, J, _⟩ := O.look
  exact ⟨_, _, J⟩
def wLenI (C : Addr) (sp : Sp) (E : XK) (Q : VK) (x : V) (H1 : Hp) : Prop := ∃ a dx fs, x = .ref a ∧ H1 a = some (.ins C dx fs) ∧ sp [x] H1 (fun y H2 => ∃ n : Int, y = .int n ∧ (0 ≤ n ∧ n < 2 ^ 63) ∧ Q (.int n) H2) E
def tLenI (C : Addr) (sp : Sp) (E : L2.St → XK) (te : TE) : TE := fun σ H Q => te σ H fun x H1 => wLenI C sp (E σ) Q x H1
theorem pe_lenI (F : FnG X.prog X.w X.K X.mg X.base (L2.CX X.prog X.w) k f fd ps sp) (hr : Rm (k + 1) X.A) (hb : Binds X.K fd ps []) (hx : ∀ σ, PassesAt (L2.CX X.prog X.w) X σ (E σ)) (hm : X.mg "len" = none) (hi : PySem.W.findIn X.K (.ref C) "__len__" = some (some (.ref f)))
    (hf : PySem.W.isFn X.K (.ref f) = true) (he : PE X e te) (hg : Gl X "len" := by rfl) (hs : starEach [e] X.env = (false, eval e X.env) :: starEach [] X.env := by rfl) (hp : (backTo pos (starEach [] X.env)).any (·.1) = false := by rfl) : PE X (.Call (.Name "len" p) [e] [] pos) (tLenI C sp E te) := by
  refine ⟨fun pins s σ H Q I h => ?_⟩
  refine wpAny_Call_Name_kw (ld_blt I hg hm PySem.boot_len ?_)
  refine PyProof.Rows.callWith_builtin1 (thn ((pa_cons he pa_nil hs).run pos pins s σ H (one1 (wLenI C sp (E σ) Q)) I h) fun us s1 ⟨vs, H1, I1, r1, q1⟩ => ?_) hs hp
  · obtain ⟨y, rfl, a, dx, fs, rfl, ha, q⟩ := one1_of q1
    obtain ⟨u, rfl, ru⟩ := vals1 r1
    obtain rfl : u = Value.ref a := ru
    obtain ⟨ox, od, J⟩ := inst_of I1 ha
    refine Calls.call_function_entry kind_len plain_len entry_len (args_len1 _) ?_
    unfold Builtin.«len»
    refine wpAny_bind (m := oneArg "len" _) (wpAny_pure ?_)
    refine wpAny_bind (m := callSpecial? (.ref a) (Str.ofString "__len__")) (PySem.W.special_fn I1.kIn J hi (beq_iff_eq.mp hf) (wpAny_mono (run_at F hr.in1 (fun s H z => z.in1) hb (hx σ) I1 q) (fun r s' hr => ?_) fun _ _ y => y))
    obtain ⟨v, H2, I2, rv, n, rfl, ⟨n0, n1⟩, q2⟩ := hr
    obtain ⟨t, rfl⟩ := rv
    refine wpAny_bind (wpAny_holding (wpAny_pure (wpAny_bind (wpAny_letGo ?_))))
    show wpAny _ _ (if n < 0 then _ else if n ≥ 2 ^ 63 then _ else _) _ _ _
    rw [if_neg (Int.not_lt.mpr n0), if_neg (by omega)]
    exact wpAny_bind (wpAny_mkInt (wpAny_pure ⟨_, rfl, .int n, H2, I2.tok _, ⟨_, rfl⟩, q2⟩))
def wRepI (C : Addr) (sp : Sp) (E : XK) (Q : VK) (x : V) (H1 : Hp) : Prop := ∃ a dx fs, x = .ref a ∧ H1 a = some (.ins C dx fs) ∧ sp [x] H1 (fun y H2 => ∃ z, y = .str z ∧ Q (.str z) H2) E
def tRepI (C : Addr) (sp : Sp) (E : L2.St → XK) (te : TE) : TE := fun σ H Q => te σ H fun x H1 => wRepI C sp (E σ) Q x H1
theorem pe_repI (F : FnG X.prog X.w X.K X.mg X.base (L2.CX X.prog X.w) k f fd ps sp) (hr : Rm (k + 1) X.A) (hb : Binds X.K fd ps []) (hx : ∀ σ, PassesAt (L2.CX X.prog X.w) X σ (E σ)) (hm : X.mg "repr" = none) (hi : PySem.W.findIn X.K (.ref C) "__repr__" = some (some (.ref f)))
    (hf : PySem.W.isFn X.K (.ref f) = true) (he : PE X e te) (hg : Gl X "repr" := by rfl) (hs : starEach [e] X.env = (false, eval e X.env) :: starEach [] X.env := by rfl) (hp : (backTo pos (starEach [] X.env)).any (·.1) = false := by rfl) : PE X (.Call (.Name "repr" p) [e] [] pos) (tRepI C sp E te) := by
  refine ⟨fun pins s σ H Q I h => ?_⟩
  refine wpAny_Call_Name_kw (ld_blt I hg hm bt_repr ?_)
  refine PyProof.Rows.callWith_builtin1 (thn ((pa_cons he pa_nil hs).run pos pins s σ H (one1 (wRepI C sp (E σ) Q)) I h) fun us s1 ⟨vs, H1, I1, r1, q1⟩ => ?_) hs hp
  · obtain ⟨y, rfl, a, dx, fs, rfl, ha, q⟩ := one1_of q1
    obtain ⟨u, rfl, ru⟩ := vals1 r1
    obtain rfl : u = Value.ref a := ru
    obtain ⟨ox, od, J⟩ := inst_of I1 ha
    refine Calls.call_function_entry PySem.F.kind_repr PySem.F.plain_repr PySem.F.entry_repr (PySem.F.args_repr1 _) ?_
    unfold Builtin.«repr»
    refine wpAny_bind (m := oneArg "repr" _) (wpAny_pure (wpAny_bind (wpAny_cRoomFor (by have := hr.room.un; show X.A.units + 1 < _; omega) ?_)))
    refine wpAny_bind (wpAny_bind (J.type.here ((PySem.W.looks_findIn I1.kIn hi).here ?_)))
    show wpAny _ _ (if (some (Value.ref f)).isNone = true then _ else _) _ _ _
    rw [if_neg (by simp)]
    refine wpAny_bind (m := callSpecialIfBound? (.ref a) (Str.ofString "__repr__") _) (PySem.W.ifBound_K I1.kIn J hi hf (wpAny_mono (run_at F hr.in1 (fun s H z => z.in1) hb (hx σ) I1 q) (fun r s' hr => ?_) fun _ _ y => y))
    obtain ⟨v, H2, I2, rv, z, rfl, q2⟩ := hr
    obtain ⟨t, rfl⟩ := rv
    refine wpAny_bind (wpAny_isInstance (typeIs_str _ _ _) isSubtype_str_str ?_)
    first
      | exact wpAny_pure ⟨_, rfl, .str z, H2, I2, ⟨_, rfl⟩, q2⟩
      | (rw [if_pos rfl]; exact wpAny_pure ⟨_, rfl, .str z, H2, I2, ⟨_, rfl⟩, q2⟩)
      | (simp only [if_true]; exact wpAny_pure ⟨_, rfl, .str z, H2, I2, ⟨_, rfl⟩, q2⟩)
end
/-- the mirror: the method, asked of the frozen instance -/
def lenB (r : R) (ρ : En) : Ou R := match r with
  | .v (.int n) => if 0 ≤ n ∧ n < 9223372036854775808 then .ok (.v (.int n)) ρ else .st
  | _ => .st
def repB (r : R) (ρ : En) : Ou R := match r with
  | .v (.str z) => .ok (.v (.str z)) ρ
  | _ => .st
def xSpI (c : Str) (m : Fm) (f : R → En → Ou R) (eo : En → Ou R) : En → Ou R := fun ρ => (vl eo ρ).bn fun d ρ1 => match d with
  | .ins c' fs => if c' = c then (calM m [.inl (.ins c' fs)] ρ1).bn f else .st
  | _ => .st
section
variable {K : PySem.W.Frag} {cl : Str → Option Addr} {W : WX} {m : Fm} {c : Str} {C : Addr} {te : TE} {eo : En → Ou R}
theorem ev_spI {k : XK → VK → V → Hp → Prop} {wish : VK → VK} {f : R → En → Ou R} (hcl : cl c = some C) (hm : m.Ok) (hO : EvE K cl W te eo)
    (hk : ∀ (E : XK) (Q : VK) (a dx : Addr) (gs : List (Str × V)) (H : Hp), H a = some (.ins C dx gs) → spM K cl 1 m [.ref a] H (wish Q) E → k E Q (.ref a) H)
    (hf : ∀ (Q : VK) (σ : L2.St) (ρ0 ρ : En) (F0 H0 F H : Hp) (r : R) (x : V), PstE K cl W Q σ ρ0 F0 H0 (f r ρ) → Sta K cl F σ H ρ → Stp (fun _ => true) σ ρ0 F0 H0 σ ρ F H → RelR K cl σ ρ0 H0 σ ρ F H x r → wish Q x H) :
    EvE K cl W (fun σ H Q => te σ H fun x H1 => k (fun cls d H => W cls d σ H) Q x H1) (xSpI c m f eo) := by
  intro F σ H ρ Q S q
  refine hO.val.then (P := PstE K cl W Q σ ρ F H) S q (fun z => z) (fun _ _ z => z) fun d ρ1 q1 x F1 H1 S1 s1 rp => ?_
  cases rp with
  | @ins a A dx c' gs fs hc hh l r =>
    simp only at q1
    split at q1
    · rename_i hcc
      subst hcc
      rw [hcl] at hc; cases hc
      have ha : H1 a = some (.ins C dx gs) := sub_not S1.sub (fun z => z) hh
      refine hk _ Q a dx gs H1 ha (cal_run (ρ := ρ1) (as := [.inl (.ins c' fs)]) hm S1 (.inl (.ins hcl hh l r) .nil) rfl ?_)
      cases e : calM m [.inl (.ins c' fs)] ρ1 with
      | st => rw [e] at q1; exact q1
      | er y ρ' => rw [e] at q1; exact fun c d F' H' S' s' er => q1 c d F' H' S' (s1.trans s') er
      | ok r2 ρ2 =>
        rw [e] at q1
        exact fun x F' H' S' s' rr => hf Q σ ρ ρ2 F H F' H' r2 x q1 S' (s1.trans s') (rr.from s1)
    · exact q1.elim
  | _ => exact q1.elim
end
section
variable {cl : Str → Option Addr} {X : Cx} {e : Expr} {eo : En → Ou R} {pos p : Pos} {c : Str} {k j : Nat} {m : Fm} {f C : Addr} {fd : FuncData} {ps : List Str}
theorem ee_lenI (hcl : cl c = some C) (hi : PySem.W.findIn X.K (.ref C) "__len__" = some (some (.ref f))) (hf : PySem.W.isFn X.K (.ref f) = true) (G : CalF X.prog X.w X.K X.mg X.base cl k 1 m f fd ps) (hr : Rm j X.A) (hb : Binds X.K fd ps []) (hm : X.mg "len" = none) (hO : EE cl X e eo) (hj : k + 1 ≤ j := by decide)
    (hg : Gl X "len" := by rfl) (hs : starEach [e] X.env = (false, eval e X.env) :: starEach [] X.env := by rfl) (hp : (backTo pos (starEach [] X.env)).any (·.1) = false := by rfl) : EE cl X (.Call (.Name "len" p) [e] [] pos) (xSpI c m lenB eo) := fun W tk => by
  obtain ⟨t, pp, vv⟩ := hO W tk
  refine ⟨_, pe_lenI (E := WE W) G.fn (hr.mono hj) hb (fun σ => passAt tk σ) hm hi hf pp hg hs hp, ev_spI (k := wLenI C (spM X.K cl 1 m)) (wish := fun Q y H2 => ∃ n : Int, y = .int n ∧ (0 ≤ n ∧ n < 2 ^ 63) ∧ Q (.int n) H2) hcl G.ok vv (fun E Q a dx gs H ha h => ⟨a, dx, gs, rfl, ha, h⟩) fun Q σ ρ0 ρ F0 H0 F H r x q S s rel => ?_⟩
  cases r with
  | v d => cases d with
    | int n =>
      cases (show Rep X.K cl F x (.int n) from rel)
      simp only [lenB] at q
      split at q
      · rename_i hn
        exact ⟨n, rfl, ⟨hn.1, by omega⟩, q _ F H S s (.int n)⟩
      · exact q.elim
    | _ => exact q.elim
  | _ => exact q.elim
theorem ee_repI (hcl : cl c = some C) (hi : PySem.W.findIn X.K (.ref C) "__repr__" = some (some (.ref f))) (hf : PySem.W.isFn X.K (.ref f) = true) (G : CalF X.prog X.w X.K X.mg X.base cl k 1 m f fd ps) (hr : Rm j X.A) (hb : Binds X.K fd ps []) (hm : X.mg "repr" = none) (hO : EE cl X e eo) (hj : k + 1 ≤ j := by decide)
    (hg : Gl X "repr" := by rfl) (hs : starEach [e] X.env = (false, eval e X.env) :: starEach [] X.env := by rfl) (hp : (backTo pos (starEach [] X.env)).any (·.1) = false := by rfl) : EE cl X (.Call (.Name "repr" p) [e] [] pos) (xSpI c m repB eo) := fun W tk => by
  obtain ⟨t, pp, vv⟩ := hO W tk
  refine ⟨_, pe_repI (E := WE W) G.fn (hr.mono hj) hb (fun σ => passAt tk σ) hm hi hf pp hg hs hp, ev_spI (k := wRepI C (spM X.K cl 1 m)) (wish := fun Q y H2 => ∃ z, y = .str z ∧ Q (.str z) H2) hcl G.ok vv (fun E Q a dx gs H ha h => ⟨a, dx, gs, rfl, ha, h⟩) fun Q σ ρ0 ρ F0 H0 F H r x q S s rel => ?_⟩
  cases r with
  | v d => cases d with
    | str z =>
      cases (show Rep X.K cl F x (.str z) from rel)
      exact ⟨z, rfl, q _ F H S s (.str z)⟩
    | _ => exact q.elim
  | _ => exact q.elim
end

/-! ### f-strings -/
def fmtD : D → Option R
  | .str y => if y.length ≤ sizeLine then some (.v (.str y)) else none
  | .int i => if i.natAbs.log2 < 1920 then some (.v (.str (toString i))) else none
  | _ => none
def rFmt : V → Hp → VK → Prop := fun x H Q => (∃ y : Str, x = .str y ∧ y.length ≤ sizeLine ∧ Q (.str y) H) ∨ ∃ i : Int, x = .int i ∧ i.natAbs.log2 < 1920 ∧ Q (.str (toString i)) H
theorem rs_fmt {K : PySem.W.Frag} {cl : Str → Option Addr} : RS1 K cl rFmt fmtD := by
  intro F H x a out s ha e Q q
  cases a with
  | str y =>
    cases ha
    simp only [fmtD] at e
    split at e
    · rename_i h; cases e; exact .inl ⟨y, rfl, h, q _ F H (Grow.refl s) (.str _)⟩
    · cases e
  | int i =>
    cases ha
    simp only [fmtD] at e
    split at e
    · rename_i h; cases e; exact .inr ⟨i, rfl, h, q _ F H (Grow.refl s) (.str _)⟩
    · cases e
  | _ => cases e
theorem ee_fmt {cl : Str → Option Addr} {X : Cx} {e : Expr} {ex : En → Ou R} {pos : Pos} (h : EE cl X e ex) : EE cl X (.FormattedValue e (-1) none pos) (xUn fmtD ex) := fun W tk =>
  let ⟨_, p, v⟩ := h W tk; ⟨_, pe_fmt p, ev_un (r := rFmt) rs_fmt v⟩
/-- the parts, one behind the other -/
def xJs : List (En → Ou R) → Str → En → Ou Str
  | [], acc, ρ => .ok acc ρ
  | e :: es, acc, ρ => (e ρ).bn fun r ρ1 => match r with
    | .v (.str y) => if (acc ++ y).length ≤ sizeLine then xJs es (acc ++ y) ρ1 else .st
    | _ => .st
def xFS (es : List (En → Ou R)) : En → Ou R := fun ρ => (xJs es Str.empty ρ).bn fun z ρ1 => .ok (.v (.str z)) ρ1
inductive EJ (cl : Str → Option Addr) (X : Cx) : List Expr → List (En → Ou R) → Prop
  | nil : EJ cl X [] []
  | cons {e : Expr} {ex : En → Ou R} {es : List Expr} {exs : List (En → Ou R)} (h : EE cl X e ex) (r : EJ cl X es exs) : EJ cl X (e :: es) (ex :: exs)
theorem EJ.run {cl : Str → Option Addr} {X : Cx} {es : List Expr} {exs : List (En → Ou R)} (h : EJ cl X es exs) {W : WX} (tk : Takes X W) : ∃ ts, PJ X es ts ∧ ∀ (acc : Str) (F : Hp) (σ : L2.St) (H : Hp) (ρ : En) (Q : VK) (ρ0 : En) (F0 H0 : Hp), Sta X.K cl F σ H ρ → Stp (fun _ => true) σ ρ0 F0 H0 σ ρ F H →
    PstE X.K cl W Q σ ρ0 F0 H0 ((xJs exs acc ρ).bn fun z ρ1 => .ok (.v (.str z)) ρ1) → tJs ts acc σ H fun out H1 => Q (.str out) H1 := by
  induction h with
  | nil => exact ⟨[], .nil, fun acc F σ H ρ Q ρ0 F0 H0 S s q => q _ F H S s (.str acc)⟩
  | @cons e ex es exs h r ih =>
    obtain ⟨t, p, v⟩ := h W tk
    obtain ⟨ts, pj, ih⟩ := ih
    refine ⟨t :: ts, .cons p pj, fun acc F σ H ρ Q ρ0 F0 H0 S s q => ?_⟩
    unfold xJs at q
    refine v F σ H ρ _ S ?_
    cases e1 : ex ρ with
    | st => rw [e1] at q; exact q
    | er y ρ' => rw [e1] at q; exact fun c d F' H' S' s' er => q c d F' H' S' (s.trans s') er
    | ok r ρ1 =>
      rw [e1] at q
      intro x F' H' S' s' rel
      simp only [Ou.bn_ok] at q
      split at q
      · rename_i y
        cases (show Rep X.K cl F' x (.str y) from rel)
        split at q
        · rename_i hz
          exact ⟨y, rfl, hz, ih (acc ++ y) F' σ H' ρ1 Q ρ0 F0 H0 S' (s.trans s') q⟩
        · exact q.elim
      · exact q.elim
theorem ee_fs {cl : Str → Option Addr} {X : Cx} {v1 v2 : Expr} {rest : List Expr} {exs : List (En → Ou R)} {pos : Pos} (h : EJ cl X (v1 :: v2 :: rest) exs) : EE cl X (.JoinedStr (v1 :: v2 :: rest) pos) (xFS exs) := fun W tk =>
  let ⟨_, pj, k⟩ := h.run tk; ⟨_, pe_joined pj, fun F σ H ρ Q S q => k Str.empty F σ H ρ Q ρ F H S Stp.refl q⟩
theorem ee_fs1 {cl : Str → Option Addr} {X : Cx} {e : Expr} {ex : En → Ou R} {pos : Pos} (h : EE cl X e ex) : EE cl X (.JoinedStr [e] pos) ex := fun W tk => let ⟨_, p, v⟩ := h W tk; ⟨_, pe_joined1 p, v⟩

/-! ### bits -/
def andD : D → D → Option R
  | .int i, .int j => some (.v (.int (Builtin.bitAnd i j)))
  | _, _ => none
def xorD : D → D → Option R
  | .int i, .int j => some (.v (.int (Builtin.bitXor i j)))
  | _, _ => none
theorem rs_i0 {K : PySem.W.Frag} {cl : Str → Option Addr} {g : Int → Int → Int} {f : D → D → Option R} (hf : ∀ a b out, f a b = some out → ∃ i j, a = .int i ∧ b = .int j ∧ out = .v (.int (g i j))) : RS2 K cl (rI0 fun i j => .int (g i j)) f := by
  intro F H x y a b out s ha hb e Q q
  obtain ⟨i, j, rfl, rfl, rfl⟩ := hf a b out e
  cases ha; cases hb
  exact ⟨i, j, rfl, rfl, q _ F H (Grow.refl s) (.int _)⟩
theorem rs_and {K : PySem.W.Frag} {cl : Str → Option Addr} : RS2 K cl (rI0 fun i j => .int (Builtin.bitAnd i j)) andD := rs_i0 fun a b out e => by
  cases a <;> cases b <;> first | cases e; exact ⟨_, _, rfl, rfl, rfl⟩ | cases e
theorem rs_xor {K : PySem.W.Frag} {cl : Str → Option Addr} : RS2 K cl (rI0 fun i j => .int (Builtin.bitXor i j)) xorD := rs_i0 fun a b out e => by
  cases a <;> cases b <;> first | cases e; exact ⟨_, _, rfl, rfl, rfl⟩ | cases e
section
variable {cl : Str → Option Addr} {X : Cx} {a b : Expr} {ea eb : En → Ou R} {pos : Pos}
theorem ee_band (ha : EE cl X a ea) (hb : EE cl X b eb) : EE cl X (.BinOp a .BitAnd b pos) (xBin andD ea eb) := ee_binop op_and rs_and ha hb
theorem ee_bxor (ha : EE cl X a ea) (hb : EE cl X b eb) : EE cl X (.BinOp a .BitXor b pos) (xBin xorD ea eb) := ee_binop op_xor rs_xor ha hb
end

/-! ### list(text) -/
def listS : List D → Option R
  | [.str z] => if z.length ≤ sizeLine then some (.o (.L (z.cps.toList.map fun c => .str ⟨#[c]⟩))) else none
  | ds => listD ds
end Dm
end TxtDm32

section TxtDm33
set_option Elab.async false
set_option linter.all false
set_option maxRecDepth 100000
set_option maxHeartbeats 2000000
/-! Dm33: list of a text; ranges as arguments; d.get; displays of dicts. -/
namespace Dm
open PySem PySem.Spec PyProof.Rows L2

/-! ### list(text) -/
def sgV (z : Str) : List V := z.cps.toList.map fun c => .str ⟨#[c]⟩
def rLstS (K : PySem.W.Frag) : List V → Hp → VK → Prop := fun xs H Q => (∃ z, xs = [.str z] ∧ z.length ≤ sizeLine ∧ ∀ l, H l = none → Q (.ref l) (upd H l (.lst (sgV z)))) ∨ ∃ p ys, xs = [.ref p] ∧ (SqL K H p ys ∨ SqT K H p ys) ∧ ∀ l, H l = none → Q (.ref l) (upd H l (.lst ys))
theorem vals_signs {z : Str} {acc : Array Value} (h : ItemsOf (SignAt z) acc z.cps.size) : Vals (sgV z) acc.toList := by
  have hl : acc.toList.length = z.cps.toList.length := by rw [Array.length_toList, h.1, Array.length_toList]
  have e : sgV z = (List.range acc.toList.length).map fun i => .str ⟨#[z.cps.toList.getD i 0]⟩ := by
    rw [hl]
    refine List.ext_getElem? fun i => ?_
    unfold sgV
    rw [List.getElem?_map, List.getElem?_map]
    by_cases hi : i < z.cps.toList.length
    · rw [List.getElem?_range hi, List.getElem?_eq_getElem hi]
      simp only [Option.map_some, List.getD_eq_getElem?_getD, List.getElem?_eq_getElem hi, Option.getD_some]
    · rw [List.getElem?_eq_none (by omega), List.getElem?_eq_none (by simpa using hi)]
      rfl
  rw [e]
  refine vals_of_get acc.toList _ fun j u hj => ?_
  obtain ⟨c, t, hc, rfl⟩ := h.2 j u (by rw [← hj, Array.getElem?_toList])
  have : z.cps.toList[j]? = some c := by rw [Array.getElem?_toList]; exact hc
  exact ⟨t, by rw [List.getD_eq_getElem?_getD, this]; rfl⟩
theorem cr_listS {X : Cx} (hc : X.calm = true) : CallR X (.type "list") (fun xs H Q => ∃ z, xs = [.str z] ∧ z.length ≤ sizeLine ∧ ∀ l, H l = none → Q (.ref l) (upd H l (.lst (sgV z)))) := by
  rintro pins s σ H xs us Q I r ⟨z, rfl, hz, q⟩
  obtain ⟨u, rfl, t, rfl⟩ := vals1 r
  have hs : z.cps.size = (sgV z).length := by unfold sgV; rw [List.length_map, Array.length_toList]
  refine call_list_str (I.ok.hd hc) z t (fun h' tk acc c' hk e hi => ⟨.ref s.heap.objs.size, upd H s.heap.objs.size (.lst (sgV z)), I.laid (t' := tk) hk (Nat.le_refl _) (show ObjOk X.prog X.w _ h' _ (.lst (sgV z)) from ⟨?_, acc.toList, c', vals_signs hi, ?_⟩), rfl, q _ (I.hok.fresh (Nat.le_refl _))⟩) hz
  · rw [← hs]; exact hz
  · rw [Array.toArray_toList]; exact e
theorem cr_listA {X : Cx} (hc : X.calm = true) : CallR X (.type "list") (rLstS X.K) := (cr_listS hc).or call_list_of
theorem repL_signs {K : PySem.W.Frag} {cl : Str → Option Addr} {F : Hp} (z : Str) : RepL K cl F (sgV z) (z.cps.toList.map fun c => .str ⟨#[c]⟩) := by
  refine ⟨by simp [sgV], fun i v d h1 h2 => ?_⟩
  unfold sgV at h1
  rw [List.getElem?_map] at h1 h2
  obtain ⟨c, e1, rfl⟩ := Option.map_eq_some_iff.mp h1
  obtain ⟨c', e2, rfl⟩ := Option.map_eq_some_iff.mp h2
  rw [e1] at e2; cases e2
  exact .str _
theorem rs_listS {K : PySem.W.Frag} {cl : Str → Option Addr} : RSn K cl (rLstS K) listS := by
  intro F H xs ds out s hp e Q q
  unfold listS at e
  split at e
  · rename_i z
    obtain ⟨x, rfl, h⟩ := hp.one
    cases h
    split at e
    · rename_i hz
      cases e
      exact .inl ⟨z, rfl, hz, fun l n => let ⟨g, rr⟩ := resL (cl := cl) s n (repL_signs z); q _ _ _ g rr⟩
    · cases e
  · exact .inr (rs_list F H xs ds out s hp e Q q)

/-! ### range(..) as an argument -/
theorem repL_rg {K : PySem.W.Frag} {cl : Str → Option Addr} {F : Hp} (a b : Int) : RepL K cl F (rgV a b) (rngD a b) := by
  refine ⟨by simp [rgV, rngD], fun i v d h1 h2 => ?_⟩
  unfold rgV at h1; unfold rngD at h2
  rw [List.getElem?_map] at h1 h2
  obtain ⟨c, e1, rfl⟩ := Option.map_eq_some_iff.mp h1
  obtain ⟨c', e2, rfl⟩ := Option.map_eq_some_iff.mp h2
  rw [e1] at e2; cases e2
  exact .int _
def rgOk (a b : Int) : Bool := decide (-4611686018427387904 ≤ a) && decide (a < 4611686018427387904) && decide (-4611686018427387904 ≤ b) && decide (b < 4611686018427387904) && decide (b - a ≤ 16777216)
theorem rgOk_ok {a b : Int} (h : rgOk a b = true) : RgOk a b := by
  unfold rgOk at h
  simp only [Bool.and_eq_true, decide_eq_true_eq] at h
  obtain ⟨⟨⟨⟨h1, h2⟩, h3⟩, h4⟩, h5⟩ := h
  exact ⟨by omega, by omega, by omega, by omega, by omega⟩
/-- the bounds; what is made of them -/
def xRgB (ea : En → Ou (List R)) : En → Ou (Int × Int) := fun ρ => (ea ρ).bn fun rs ρ1 => match rs with
  | [.v (.int n)] => if rgOk 0 n then .ok (0, n) ρ1 else .st
  | [.v (.int a), .v (.int b)] => if rgOk a b then .ok (a, b) ρ1 else .st
  | _ => .st
def xLenRg (ea : En → Ou (Int × Int)) : En → Ou R := fun ρ => (ea ρ).bn fun p ρ1 => .ok (.v (.int ((p.2 - p.1).toNat : Nat))) ρ1
def xLstRg (ea : En → Ou (Int × Int)) : En → Ou R := fun ρ => (ea ρ).bn fun p ρ1 => .ok (.o (.L (rngD p.1 p.2))) ρ1
def xTupRg (ea : En → Ou (Int × Int)) : En → Ou R := fun ρ => (ea ρ).bn fun p ρ1 => .ok (.v (.tup (rngD p.1 p.2))) ρ1
section
variable (K : PySem.W.Frag) (cl : Str → Option Addr)
def PstRg (W : WX) (Q : Int → Int → Hp → Prop) (σ : L2.St) (ρ : En) (F H : Hp) : Ou (Int × Int) → Prop
  | .ok p ρ' => ∀ F' H', Sta K cl F' σ H' ρ' → Stp (fun _ => true) σ ρ F H σ ρ' F' H' → Q p.1 p.2 H'
  | .er e ρ' => ∀ c d F' H', Sta K cl F' σ H' ρ' → Stp (fun _ => true) σ ρ F H σ ρ' F' H' → ErrOk K cl F' e c d → W c d σ H'
  | .st => False
end
def ER (cl : Str → Option Addr) (X : Cx) (e : Expr) (ex : En → Ou (Int × Int)) : Prop := ∀ W, Takes X W → ∃ t, PRg X e t ∧ ∀ F σ H ρ Q, Sta X.K cl F σ H ρ → PstRg X.K cl W Q σ ρ F H (ex ρ) → t σ H fun a b H1 => RgOk a b ∧ Q a b H1
section
variable {cl : Str → Option Addr} {X : Cx} {a b e : Expr} {ea eb : En → Ou R} {ex : En → Ou (Int × Int)} {p pos : Pos}
theorem er_1 (hm : X.mg "range" = none) (ha : EE cl X a ea) (hg : Gl X "range" := by rfl) (na : starEach [a] X.env = (false, eval a X.env) :: starEach [] X.env := by rfl) : ER cl X (.Call (.Name "range" p) [a] [] pos) (xRgB (kCons ea kNil)) := fun W tk => by
  obtain ⟨t, pp, v⟩ := ha W tk
  refine ⟨_, prg_1 hg hm pp na, fun F σ H ρ Q S q => v F σ H ρ _ S ?_⟩
  unfold xRgB kCons kNil at q
  cases e1 : ea ρ with
  | st => simp only [e1, Ou.bn_st] at q; exact q
  | er y ρ' => simp only [e1, Ou.bn_er] at q; exact q
  | ok r ρ1 =>
    simp only [e1, Ou.bn_ok] at q
    intro x F1 H1 S1 s1 rel
    split at q
    · rename_i n heq
      cases heq
      cases (show Rep X.K cl F1 x (.int n) from rel)
      split at q
      · rename_i hk; exact ⟨n, rfl, rgOk_ok hk, q F1 H1 S1 s1⟩
      · exact q.elim
    · rename_i heq; simp at heq
    · exact q.elim
theorem er_2 (hm : X.mg "range" = none) (ha : EE cl X a ea) (hb : EE cl X b eb) (hg : Gl X "range" := by rfl) (na : starEach [a, b] X.env = (false, eval a X.env) :: starEach [b] X.env := by rfl) (nb : starEach [b] X.env = (false, eval b X.env) :: starEach [] X.env := by rfl)
    (hp : (backTo pos (starEach [b] X.env)).any (·.1) = false := by rfl) : ER cl X (.Call (.Name "range" p) [a, b] [] pos) (xRgB (kCons ea (kCons eb kNil))) := fun W tk => by
  obtain ⟨t, pp, v⟩ := ha W tk
  obtain ⟨t2, pp2, v2⟩ := hb W tk
  refine ⟨_, prg_2 hg hm pp pp2 na nb hp, fun F σ H ρ Q S q => v F σ H ρ _ S ?_⟩
  unfold xRgB kCons kNil at q
  cases e1 : ea ρ with
  | st => simp only [e1, Ou.bn_st] at q; exact q
  | er y ρ' => simp only [e1, Ou.bn_er] at q; exact q
  | ok r ρ1 =>
    simp only [e1, Ou.bn_ok] at q
    intro x F1 H1 S1 s1 rel
    refine v2 F1 σ H1 ρ1 _ S1 ?_
    cases e2 : eb ρ1 with
    | st => simp only [e2, Ou.bn_st] at q; exact q
    | er y ρ' => simp only [e2, Ou.bn_er] at q; exact fun c d F' H' S' s' er => q c d F' H' S' (s1.trans s') er
    | ok r2 ρ2 =>
      simp only [e2, Ou.bn_ok] at q
      intro y F2 H2 S2 s2 rel2
      split at q
      · rename_i heq; simp at heq
      · rename_i i j heq
        cases heq
        cases (show Rep X.K cl F1 x (.int i) from rel)
        cases (show Rep X.K cl F2 y (.int j) from rel2)
        split at q
        · rename_i hk; exact ⟨i, j, rfl, rfl, rgOk_ok hk, q F2 H2 S2 (s1.trans s2)⟩
        · exact q.elim
      · exact q.elim
end
section
variable {cl : Str → Option Addr} {X : Cx} {e : Expr} {ex : En → Ou (Int × Int)} {p pos : Pos}
theorem pe_lenRg {te : L2.St → Hp → (Int → Int → Hp → Prop) → Prop} (hg : Gl X "len") (hm : X.mg "len" = none) (he : PRg X e te) (na : starEach [e] X.env = (false, eval e X.env) :: starEach [] X.env := by rfl) (hp : (backTo pos (starEach [] X.env)).any (·.1) = false := by rfl) :
    PE X (.Call (.Name "len" p) [e] [] pos) (fun σ H Q => te σ H fun a b H1 => RgOk a b ∧ Q (.int ((b - a).toNat : Nat)) H1) := by
  refine ⟨fun pins s σ H Q I h => ?_⟩
  refine wpAny_Call_Name_kw (ld_blt I hg hm PySem.boot_len (PyProof.Rows.callWith_builtin1 (args_cons (thn (he pins s σ H _ I h) fun x s1 ⟨r, a, b, t, u, v, H1, ex, hr, I1, ok, q⟩ => args_nil ?_) na) na hp))
  subst ex
  obtain ⟨_, _, _, _, b5⟩ := ok
  exact call_len_range (n := (b - a).toNat) hr (rangeSize_nat a b) (by omega) ⟨.int ((b - a).toNat : Nat), H1, (I1.tok _).tok _, ⟨_, rfl⟩, q⟩
theorem ee_lenRg (hm : X.mg "len" = none) (h : ER cl X e ex) (hg : Gl X "len" := by rfl) (na : starEach [e] X.env = (false, eval e X.env) :: starEach [] X.env := by rfl) (hp : (backTo pos (starEach [] X.env)).any (·.1) = false := by rfl) : EE cl X (.Call (.Name "len" p) [e] [] pos) (xLenRg ex) := fun W tk => by
  obtain ⟨t, pp, v⟩ := h W tk
  refine ⟨_, pe_lenRg hg hm pp na hp, fun F σ H ρ Q S q => v F σ H ρ (fun a b H1 => Q (.int ((b - a).toNat : Nat)) H1) S ?_⟩
  unfold xLenRg at q
  cases e1 : ex ρ with
  | st => rw [e1] at q; exact q
  | er y ρ' => rw [e1] at q; exact q
  | ok r ρ1 => rw [e1] at q; exact fun F' H' S' s' => q _ F' H' S' s' (.int _)
theorem ee_lstRg (hc : X.calm = true) (hm : X.mg "list" = none) (h : ER cl X e ex) (hg : Gl X "list" := by rfl) (na : starEach [e] X.env = (false, eval e X.env) :: starEach [] X.env := by rfl) : EE cl X (.Call (.Name "list" p) [e] [] pos) (xLstRg ex) := fun W tk => by
  obtain ⟨t, pp, v⟩ := h W tk
  refine ⟨_, pe_listRg hc hg hm pp na, fun F σ H ρ Q S q => v F σ H ρ (fun a b H1 => ∀ l, H1 l = none → Q (.ref l) (upd H1 l (.lst (rgV a b)))) S ?_⟩
  unfold xLstRg at q
  cases e1 : ex ρ with
  | st => rw [e1] at q; exact q
  | er y ρ' => rw [e1] at q; exact q
  | ok r ρ1 =>
    rw [e1] at q
    intro F' H' S' s' l n
    obtain ⟨g, rr⟩ := resL (K := X.K) (cl := cl) S'.sub n (repL_rg r.1 r.2)
    exact q _ _ _ (g.sta S') (s'.trans g.stp) ((rr.rel S').from s')
theorem ee_tupRg (hc : X.calm = true) (hm : X.mg "tuple" = none) (h : ER cl X e ex) (hg : Gl X "tuple" := by rfl) (na : starEach [e] X.env = (false, eval e X.env) :: starEach [] X.env := by rfl) : EE cl X (.Call (.Name "tuple" p) [e] [] pos) (xTupRg ex) := fun W tk => by
  obtain ⟨t, pp, v⟩ := h W tk
  refine ⟨_, pe_tupRg hc hg hm pp na, fun F σ H ρ Q S q => v F σ H ρ (fun a b H1 => ∀ l, H1 l = none → Q (.ref l) (upd H1 l (.tup (rgV a b)))) S ?_⟩
  unfold xTupRg at q
  cases e1 : ex ρ with
  | st => rw [e1] at q; exact q
  | er y ρ' => rw [e1] at q; exact q
  | ok r ρ1 =>
    rw [e1] at q
    intro F' H' S' s' l n
    obtain ⟨g, rr⟩ := resT (K := X.K) (cl := cl) S'.sub n (repL_rg r.1 r.2)
    exact q _ _ _ (g.sta S') (s'.trans g.stp) ((rr.rel S').from s')
end

/-! ### d.get(k, x) -/
def isDD : D → Bool
  | .dK _ => true
  | .dT _ => true
  | _ => false
def ddR (rd : R) (ρ : En) : Bool := match pk rd ρ with
  | some d => isDD d
  | none => false
def getB (rd ra rb : R) (ρ : En) : Ou R := match pk rd ρ, pk ra ρ with
  | some d, some k => (match dgetD d k with
    | some (some v) => .ok (.v v) ρ
    | some none => .ok rb ρ
    | none => .st)
  | _, _ => .st
def xGet2 (eo ea eb : En → Ou R) : En → Ou R := fun ρ => (eo ρ).bn fun rd ρ1 => if ddR rd ρ1 = true then (ea ρ1).bn fun ra ρ2 => (eb ρ2).bn fun rb ρ3 => getB rd ra rb ρ3 else .st
def xGet1 (eo ea : En → Ou R) : En → Ou R := fun ρ => (eo ρ).bn fun rd ρ1 => if ddR rd ρ1 = true then (ea ρ1).bn fun ra ρ2 => getB rd ra (.v .non) ρ2 else .st
section
variable {K : PySem.W.Frag} {cl : Str → Option Addr} {W : WX} {td ty tx : TE} {eo ea eb : En → Ou R} {F H : Hp}
theorem isDD_ok {x : V} {d : D} (h : Pk K cl F H x d) (e : isDD d = true) : ∃ a, x = .ref a ∧ IsD H a := by
  cases d with
  | dK es => obtain ⟨a, kvs, rfl, hp, _⟩ := h; exact ⟨a, rfl, .inl ⟨kvs, hp⟩⟩
  | dT es => obtain ⟨a, kvs, rfl, hp, _⟩ := h; exact ⟨a, rfl, .inr ⟨kvs, hp⟩⟩
  | _ => cases e
theorem ev_get2 (ho : EvE K cl W td eo) (ha : EvE K cl W ty ea) (hb : EvE K cl W tx eb) : EvE K cl W (tDGet2 td ty tx) (xGet2 eo ea eb) := by
  intro F σ H ρ Q S q
  refine ho.then (P := PstE K cl W Q σ ρ F H) S q (fun z => z) (fun _ _ z => z) fun rd ρ1 q1 x F1 H1 S1 s1 rel => ?_
  split at q1
  · rename_i hd
    unfold ddR at hd
    cases e0 : pk rd ρ1 with
    | none => rw [e0] at hd; cases hd
    | some d0 =>
      rw [e0] at hd
      obtain ⟨a, rfl, hD⟩ := isDD_ok (pk_ok S1 rel e0) hd
      refine ⟨a, rfl, hD, ?_⟩
      refine ha.then (P := PstE K cl W Q σ ρ F H) S1 q1 (fun z => z) (fun _ _ z c d F' H' S' s' er => z c d F' H' S' (s1.trans s') er) fun ra ρ2 q2 y F2 H2 S2 s2 rel2 => ?_
      refine hb.then (P := PstE K cl W Q σ ρ F H) S2 q2 (fun z => z) (fun _ _ z c d F' H' S' s' er => z c d F' H' S' ((s1.trans s2).trans s') er) fun rb ρ3 q3 z F3 H3 S3 s3 rel3 => ?_
      have relx := (rel.step s2).step s3
      have rely := rel2.step s3
      unfold getB at q3
      cases e1 : pk rd ρ3 with
      | none => rw [e1] at q3; exact q3.elim
      | some d =>
        cases e2 : pk ra ρ3 with
        | none => rw [e1, e2] at q3; exact q3.elim
        | some k =>
          rw [e1, e2] at q3
          simp only at q3
          cases e3 : dgetD d k with
          | none => rw [e3] at q3; exact q3.elim
          | some o =>
            rw [e3] at q3
            obtain ⟨p, ov, ep, _, hg, hh⟩ := dget_ok (pk_ok S3 relx e1) (pk_ok S3 rely e2) e3
            cases ep
            refine ⟨ov, hg, ?_⟩
            rcases hh with ⟨rfl, rfl⟩ | ⟨d', v, rfl, rfl, r⟩
            · exact q3 z F3 H3 S3 ((s1.trans s2).trans s3) (rel3.from (s1.trans s2))
            · exact q3 v F3 H3 S3 ((s1.trans s2).trans s3) r
  · exact q1.elim
theorem ev_get1 (ho : EvE K cl W td eo) (ha : EvE K cl W ty ea) : EvE K cl W (tDGet1 td ty) (xGet1 eo ea) := by
  intro F σ H ρ Q S q
  refine ho.then (P := PstE K cl W Q σ ρ F H) S q (fun z => z) (fun _ _ z => z) fun rd ρ1 q1 x F1 H1 S1 s1 rel => ?_
  split at q1
  · rename_i hd
    unfold ddR at hd
    cases e0 : pk rd ρ1 with
    | none => rw [e0] at hd; cases hd
    | some d0 =>
      rw [e0] at hd
      obtain ⟨a, rfl, hD⟩ := isDD_ok (pk_ok S1 rel e0) hd
      refine ⟨a, rfl, hD, ?_⟩
      refine ha.then (P := PstE K cl W Q σ ρ F H) S1 q1 (fun z => z) (fun _ _ z c d F' H' S' s' er => z c d F' H' S' (s1.trans s') er) fun ra ρ3 q3 y F3 H3 S3 s3 rel2 => ?_
      have relx := rel.step s3
      unfold getB at q3
      cases e1 : pk rd ρ3 with
      | none => rw [e1] at q3; exact q3.elim
      | some d =>
        cases e2 : pk ra ρ3 with
        | none => rw [e1, e2] at q3; exact q3.elim
        | some k =>
          rw [e1, e2] at q3
          simp only at q3
          cases e3 : dgetD d k with
          | none => rw [e3] at q3; exact q3.elim
          | some o =>
            rw [e3] at q3
            obtain ⟨p, ov, ep, _, hg, hh⟩ := dget_ok (pk_ok S3 relx e1) (pk_ok S3 rel2 e2) e3
            cases ep
            refine ⟨ov, hg, ?_⟩
            rcases hh with ⟨rfl, rfl⟩ | ⟨d', v, rfl, rfl, r⟩
            · exact q3 .non F3 H3 S3 (s1.trans s3) .non
            · exact q3 v F3 H3 S3 (s1.trans s3) r
  · exact q1.elim
end
section
variable {cl : Str → Option Addr} {X : Cx} {o e f : Expr} {eo ea eb : En → Ou R} {apos cpos : Pos} {k : Nat}
theorem ee_get2 (hr : Rm k X.A) (ho : EE cl X o eo) (ha : EE cl X e ea) (hb : EE cl X f eb) (m : M2 X o "get" apos e f cpos := by exact ⟨rfl, rfl, rfl, rfl⟩) : EE cl X (.Call (.Attribute o "get" apos) [e, f] [] cpos) (xGet2 eo ea eb) := fun W tk =>
  let ⟨_, p, v⟩ := ho W tk; let ⟨_, p1, v1⟩ := ha W tk; let ⟨_, p2, v2⟩ := hb W tk; ⟨_, pe_dget2 (hu_of hr.room) p p1 p2 m, ev_get2 v v1 v2⟩
theorem ee_get1 (hr : Rm k X.A) (ho : EE cl X o eo) (ha : EE cl X e ea) (m : M1 X o "get" apos e cpos := by exact ⟨rfl, rfl, rfl, rfl⟩) : EE cl X (.Call (.Attribute o "get" apos) [e] [] cpos) (xGet1 eo ea) := fun W tk =>
  let ⟨_, p, v⟩ := ho W tk; let ⟨_, p1, v1⟩ := ha W tk; ⟨_, pe_dget1 (hu_of hr.room) p p1 m, ev_get1 v v1⟩
end

/-! ### {k: v, ..}, keys ints and texts -/
def xPrs : List ((En → Ou R) × (En → Ou R)) → En → Ou (List (Key × D))
  | [], ρ => .ok [] ρ
  | (a, b) :: r, ρ => (a ρ).bn fun ra ρ1 => (vl b ρ1).bn fun d ρ2 => (xPrs r ρ2).bn fun ps ρ3 => match ra with
    | .v x => (match keyD x with
      | some k => .ok ((k, d) :: ps) ρ3
      | none => .st)
    | _ => .st
def mergeD (es more : List (Key × D)) : List (Key × D) := more.foldl (fun acc kv => putD acc kv.1 kv.2) es
def xDisp (prs : List ((En → Ou R) × (En → Ou R))) : En → Ou R := fun ρ => (xPrs prs ρ).bn fun ps ρ1 => if ps.length ≤ 15 then .ok (.o (.dK (mergeD [] ps))) ρ1 else .st
section
variable {K : PySem.W.Frag} {cl : Str → Option Addr} {F F' H H' H0 F0 : Hp} {σ σ0 : L2.St} {ρ ρ0 : En} {pn : Nat → Bool}
/-- a thing that nobody owns is written -/
theorem Sta.free_write {p : Addr} {o : HO} (S : Sta K cl F σ H ρ) (hf : F p = none) (hn : ¬ OwnS σ ρ p) : Sta K cl F σ (upd H p o) ρ := by
  refine ⟨fun a u e => ?_, S.len, S.val, fun i c h hc => ?_, S.sep⟩
  · rw [upd_ne (ne_of_none e hf)]; exact S.sub a u e
  · obtain ⟨q, u, e1, e2, e3, e4⟩ := S.own i c h hc
    have : q ≠ p := fun z => hn ⟨i, c, h, hc, by rw [← z]; exact e1⟩
    exact ⟨q, u, e1, e2, by rw [upd_ne this]; exact e3, e4⟩
theorem Stp.free_write {p : Addr} {o : HO} (st : Stp pn σ0 ρ0 F0 H0 σ ρ F H) (hp : H0 p = none) : Stp pn σ0 ρ0 F0 H0 σ ρ F (upd H p o) :=
  ⟨st.mono, fun q u h n => by rw [upd_ne (ne_of_none h hp)]; exact st.keep q u h n, st.free, st.own, st.pin, fun q u h => by rw [upd_ne (ne_of_none h hp)]; exact st.thr q u h, st.len⟩
theorem RepKs.merge {more : List (Key × V)} {ms : List (Key × D)} (r : RepKs K cl F more ms) : ∀ {kvs : List (Key × V)} {es : List (Key × D)}, RepKs K cl F kvs es → RepKs K cl F (mergeK kvs more) (mergeD es ms) := by
  refine r.ind (P := fun more ms => ∀ {kvs : List (Key × V)} {es : List (Key × D)}, RepKs K cl F kvs es → RepKs K cl F (mergeK kvs more) (mergeD es ms)) (fun h => h) fun p q ps qs e h t ih => ?_
  intro kvs es r0
  have := r0.put p.1 h
  rw [show mergeK kvs (p :: ps) = mergeK (putK kvs p.1 p.2) ps from rfl, show mergeD es (q :: qs) = mergeD (putD es q.1 q.2) qs from rfl, ← e]
  exact ih this
end
inductive EPs (cl : Str → Option Addr) (X : Cx) : List (Option Expr) → List Expr → List ((En → Ou R) × (En → Ou R)) → Prop
  | nil : EPs cl X [] [] []
  | cons {k v : Expr} {ek ev : En → Ou R} {ks : List (Option Expr)} {vs : List Expr} {r : List ((En → Ou R) × (En → Ou R))} (hk : EE cl X k ek) (hv : EE cl X v ev) (hr : EPs cl X ks vs r) : EPs cl X (some k :: ks) (v :: vs) ((ek, ev) :: r)
section
variable (K : PySem.W.Frag) (cl : Str → Option Addr)
def PstP (W : WX) (Q : List (V × V) → Hp → Prop) (σ : L2.St) (ρ : En) (F H : Hp) : Ou (List (Key × D)) → Prop
  | .ok ps ρ' => ∀ kvs F' H', Sta K cl F' σ H' ρ' → Stp (fun _ => true) σ ρ F H σ ρ' F' H' → RepKs K cl F' kvs ps → Q (kvs.map fun kv => (kV kv.1, kv.2)) H'
  | .er e ρ' => ∀ c d F' H', Sta K cl F' σ H' ρ' → Stp (fun _ => true) σ ρ F H σ ρ' F' H' → ErrOk K cl F' e c d → W c d σ H'
  | .st => False
end
theorem EPs.run {cl : Str → Option Addr} {X : Cx} {ks : List (Option Expr)} {vs : List Expr} {prs : List ((En → Ou R) × (En → Ou R))} (h : EPs cl X ks vs prs) {W : WX} (tk : Takes X W) (pos : Pos) :
    ∃ trs, PPs X pos ks vs trs ∧ ∀ F σ H ρ Q, Sta X.K cl F σ H ρ → PstP X.K cl W Q σ ρ F H (xPrs prs ρ) → tPairs trs σ H Q := by
  induction h with
  | nil => exact ⟨[], pps_nil, fun F σ H ρ Q S q => q [] F H S Stp.refl RepKs.nil⟩
  | @cons k v ek ev ks vs r hk hv hr ih =>
    obtain ⟨ta, pa, va⟩ := hk W tk
    obtain ⟨tb, pb, vb⟩ := hv W tk
    obtain ⟨trs, pp, ih⟩ := ih
    refine ⟨(ta, tb) :: trs, pps_cons pa pb pp, fun F σ H ρ Q S q => ?_⟩
    unfold xPrs at q
    refine va.then (P := PstP X.K cl W Q σ ρ F H) S q (fun z => z) (fun _ _ z => z) fun ra ρ1 q1 x F1 H1 S1 s1 rel => ?_
    refine vb.val.then (P := PstP X.K cl W Q σ ρ F H) S1 q1 (fun z => z) (fun _ _ z c d F' H' S' s' er => z c d F' H' S' (s1.trans s') er) fun d ρ2 q2 y F2 H2 S2 s2 rp => ?_
    refine ih F2 σ H2 ρ2 _ S2 ?_
    cases e : xPrs r ρ2 with
    | st => rw [e] at q2; exact q2
    | er z ρ' => rw [e] at q2; exact fun c d F' H' S' s' er => q2 c d F' H' S' ((s1.trans s2).trans s') er
    | ok ps ρ3 =>
      rw [e] at q2
      simp only [Ou.bn_ok] at q2
      intro kvs F' H' S' s' rk
      split at q2
      · rename_i xd
        split at q2
        · rename_i k hk
          have hx : x = kV k := Rep.key (show Rep X.K cl F1 x xd from rel) hk
          rw [hx]
          exact q2 ((k, y) :: kvs) F' H' S' ((s1.trans s2).trans s') (RepKs.cons rfl (rp.mono s'.mono) rk)
        · exact q2.elim
      · exact q2.elim
theorem ee_disp {cl : Str → Option Addr} {X : Cx} {ks : List (Option Expr)} {vs : List Expr} {prs : List ((En → Ou R) × (En → Ou R))} {pos : Pos} (h : EPs cl X ks vs prs) (hall : ks.all (·.isSome) = true := by rfl) (hl : ks.length = vs.length := by rfl) (h0 : ks ≠ [] := by exact fun z => by cases z)
    (h15 : ks.length ≤ 15 := by decide) : EE cl X (.Dict ks vs pos) (xDisp prs) := fun W tk => by
  obtain ⟨trs, pp, k⟩ := h.run tk pos
  refine ⟨_, pe_disp pp hall hl h0 h15, fun F σ H ρ Q S q p hp => ?_⟩
  have g0 : Grow F H F (upd H p (.dK [])) := Grow.new S.sub hp
  have S0 := g0.sta S
  have s0 : Stp (fun _ => true) σ ρ F H σ ρ F (upd H p (.dK [])) := g0.stp
  have nn : ¬ OwnS σ ρ p := fun ⟨i, c, b1, b2, b3⟩ => by
    obtain ⟨p', o, c1, _, c3, _⟩ := S.own i c b1 b2
    rw [b3] at c1; cases c1
    rw [hp] at c3; cases c3
  refine k F σ _ ρ _ S0 ?_
  unfold xDisp at q
  cases e : xPrs prs ρ with
  | st => rw [e] at q; exact q
  | er z ρ' => rw [e] at q; exact fun c d F' H' S' s' er => q c d F' H' S' (s0.trans s') er
  | ok ps ρ1 =>
    rw [e] at q
    simp only [Ou.bn_ok] at q
    intro kvs F' H' S' s' rk
    split at q
    · rename_i hz
      have h2 : H' p = some (.dK []) := s'.keep p _ upd_same nn
      have fp : F' p = none := (s'.free p _ upd_same nn (sub_none S.sub hp)).resolve_right fun z => by cases z
      have nn' : ¬ OwnS σ ρ1 p := fun z => (s'.own p z).elim nn fun z => by rw [upd_same] at z; cases z
      have st := (s0.trans s').free_write (o := .dK (mergeK [] kvs)) hp
      refine ⟨h2, kvs, rfl, by rw [rk.length]; exact hz, ?_⟩
      exact q (.ref p) F' _ (S'.free_write fp nn') st ⟨p, .dK (mergeK [] kvs), rfl, rfl, fp, upd_same, ⟨_, rfl, rk.merge RepKs.nil⟩, nn', .inr hp⟩
    · exact q.elim
end Dm
end TxtDm33

section TxtDm34
set_option Elab.async false
set_option linter.all false
set_option maxRecDepth 100000
set_option maxHeartbeats 2000000
/-! Dm34: how defs with defaults are bound, whatever stands for the defaults. -/
namespace Dm
open PySem PySem.Spec PyProof.Rows L2
section
variable {K : PySem.W.Frag} {cl : Str → Option Addr} {F : Hp} {x qual : Str} {st : Stmt} {f : Addr} {fd : FuncData} {ps ks : List Str} {n : Nat} {is : List Nat}
/-- nothing is wanted of the defaults in the tuple at T -/
theorem kwD_T0 {N : Nat} {T : Addr} {oT : Obj} {its : List Value} (lT : K.lookup T = some oT) (oT' : oT.data = .seq its.toArray N)
    (h : ∀ us ws : List Value, us.length = n → ws.length = ks.length → ∃ k, bindArgs fd ⟨us, ks.zip ws⟩ = seqItems? (.ref T) >>= k ∧ k (some its.toArray) = pure (ps.zip (pick is (us ++ ws)))) : KwD K fd ps n ks [] is :=
  ⟨[], .nil, fun s us ws X l1 l2 => by
    obtain ⟨k, e1, e2⟩ := h us ws l1 l2
    refine BindsTo.of_looks fun M => ?_
    rw [e1, List.append_nil]
    exact looks_items X lT oT' (.of_pure e2)⟩
theorem binds_T {N : Nat} {T : Addr} {oT : Obj} {its : List Value} (lT : K.lookup T = some oT) (oT' : oT.data = .seq its.toArray N)
    (h : ∀ us : List Value, us.length = ps.length → ∃ k, bindArgs fd ⟨us, []⟩ = seqItems? (.ref T) >>= k ∧ k (some its.toArray) = pure (ps.zip us)) : Binds K fd ps [] := fun s us X l => by
  obtain ⟨k, e1, e2⟩ := h us (by simpa using l)
  refine BindsTo.of_looks fun M => ?_
  rw [e1, List.append_nil]
  exact looks_items X lT oT' (.of_pure e2)
theorem kwD_fn (G : Fun K x qual st f fd) (h : ∀ (kV doc pm : Value) (an : Option Addr) (cdv ct : Value) (us ws : List Value), us.length = n → ws.length = ks.length →
    bindArgs (PySem.W.fnOf x qual (defArgs st) (defBody st) (defScope st) .none kV doc pm an cdv ct) ⟨us, ks.zip ws⟩ = pure (ps.zip (pick is (us ++ ws)))) : KwD K fd ps n ks [] is := by
  obtain ⟨oc, od, kV, doc, pm, an, cdv, ct, osl, rfl, lk, hcd⟩ := G.ex
  exact kwD_0 fun us ws l1 l2 => h kV doc pm an cdv ct us ws l1 l2
/-- the empty tuple that stands since the start -/
theorem rep_tup0 {e : Addr} {m : Nat} (h : K.lookup e = some ⟨.type "tuple", none, .seq #[] m, #[]⟩) : Rep K cl F (.ref e) (.tup []) :=
  .tup (vs := []) (.inr ⟨_, #[], m, h, rfl, rfl, Nat.zero_le _, .nil⟩) (.inl rfl) rfl fun i v d a _ => by simp at a
end
theorem kinds_all {p : String → Prop} (h1 : p "NoneType") (h2 : p "bool") (h3 : p "int") (h4 : p "str") (h5 : p "tuple") (h6 : p "list") (h7 : p "dict") : ∀ a ∈ kinds, p a := by
  intro a ha
  simp only [kinds, List.mem_cons, List.not_mem_nil, or_false] at ha
  rcases ha with rfl | rfl | rfl | rfl | rfl | rfl | rfl <;> assumption
theorem kinds_tail {p : String → Prop} (h2 : p "bool") (h3 : p "int") (h4 : p "str") (h5 : p "tuple") (h6 : p "list") (h7 : p "dict") : ∀ a ∈ kinds.tail, p a := by
  intro a ha
  simp only [kinds, List.tail_cons, List.mem_cons, List.not_mem_nil, or_false] at ha
  rcases ha with rfl | rfl | rfl | rfl | rfl | rfl <;> assumption
theorem beq_same (c : Str) : (some true : Option Bool) = some (c == c) := by simp
theorem beq_diff {c d : Str} (h : c ≠ d) : (some false : Option Bool) = some (c == d) := by simp [h]
end Dm
end TxtDm34

section TxtDm35
set_option Elab.async false
set_option linter.all false
set_option maxRecDepth 100000
/-! Dm35: reckoning with the mirrors of Dm26 .. Dm34, for simp. -/
namespace Dm
open PySem PySem.Spec PyProof.Rows

section
variable {i : Nat} {ρ ρ1 : En} {d : D} {ea eb eo : En → Ou R}
-- kinds
@[simp] theorem isiA_str {z : Str} {n : String} : isiA [.str z, .ty n] = isiD [.str z, .ty n] := rfl
@[simp] theorem isiA_int {z : Int} {n : String} : isiA [.int z, .ty n] = isiD [.int z, .ty n] := rfl
@[simp] theorem isiA_bl {z : Bool} {n : String} : isiA [.bl z, .ty n] = isiD [.bl z, .ty n] := rfl
@[simp] theorem isiA_non {n : String} : isiA [.non, .ty n] = isiD [.non, .ty n] := rfl
@[simp] theorem isiA_tup {z : List D} {n : String} : isiA [.tup z, .ty n] = isiD [.tup z, .ty n] := rfl
@[simp] theorem isiA_lst {z : List D} {n : String} : isiA [.lst z, .ty n] = isiD [.lst z, .ty n] := rfl
@[simp] theorem isiA_dK {z : List (L2.Key × D)} {n : String} : isiA [.dK z, .ty n] = isiD [.dK z, .ty n] := rfl
@[simp] theorem isiA_dT {z : List (List L2.Key × D)} {n : String} : isiA [.dT z, .ty n] = isiD [.dT z, .ty n] := rfl
@[simp] theorem isX_House : isX "House" = false := by decide +kernel
@[simp] theorem isX_Castle : isX "Castle" = false := by decide +kernel
@[simp] theorem isX_Keep : isX "Keep" = false := by decide +kernel
@[simp] theorem isX_Desk : isX "Desk" = false := by decide +kernel
@[simp] theorem isiA_ins {c : Str} {fs : List (Str × D)} {n : String} : isiA [.ins c fs, .ty n] = if n ∈ kinds.tail ∧ isX c = false then some (.v (.bl false)) else none := by
  show (if (kinds.tail.contains n && !isX c) = true then some (R.v (.bl false)) else none) = _
  simp
@[simp] theorem isiA_insC {c c' : Str} {fs : List (Str × D)} : isiA [.ins c fs, .cls c'] = if (isX c || isX c') = true then none else some (.v (.bl (c == c'))) := rfl
@[simp] theorem tyD_str {z : Str} : tyD (.str z) = some "str" := rfl
@[simp] theorem tyD_int {z : Int} : tyD (.int z) = some "int" := rfl
@[simp] theorem tyD_bl {z : Bool} : tyD (.bl z) = some "bool" := rfl
@[simp] theorem tyD_non : tyD .non = some "NoneType" := rfl
@[simp] theorem tyD_tup {z : List D} : tyD (.tup z) = some "tuple" := rfl
@[simp] theorem tyD_lst {z : List D} : tyD (.lst z) = some "list" := rfl
@[simp] theorem tyD_dK {z : List (L2.Key × D)} : tyD (.dK z) = some "dict" := rfl
@[simp] theorem kd_bool : ("bool" ∈ kinds.tail) = True := by simp [kinds]
@[simp] theorem kd_int : ("int" ∈ kinds.tail) = True := by simp [kinds]
@[simp] theorem kd_str : ("str" ∈ kinds.tail) = True := by simp [kinds]
@[simp] theorem kd_tuple : ("tuple" ∈ kinds.tail) = True := by simp [kinds]
@[simp] theorem kd_list : ("list" ∈ kinds.tail) = True := by simp [kinds]
@[simp] theorem kd_dict : ("dict" ∈ kinds.tail) = True := by simp [kinds]
theorem isT_self (t : String) : isT t t = true := by unfold isT; simp
-- instances
@[simp] theorem toD_O {c : Str} {fs : List (Str × D)} : (C.O c fs).toD = .ins c fs := rfl
@[simp] theorem own_O {c : Str} {fs : List (Str × D)} : (C.O c fs).own = true := rfl
@[simp] theorem fldD_ins {f c : Str} {fs : List (Str × D)} : fldD f (.ins c fs) = if isX c = true then none else (fs.lookup f).map .v := rfl
@[simp] theorem dArg_nil : dArg [] = [] := rfl
@[simp] theorem dArg_cons {ds : List D} : dArg (d :: ds) = .inl d :: dArg ds := rfl
@[simp] theorem xCalD_ap {m : Fm} {is : List Nat} {dd : List D} {a b : En → Ou (List Ar)} : xCalD m is dd a b ρ = (a ρ).bn fun as ρ1 => (b ρ1).bn fun bs ρ2 => calM m (pick is (as ++ bs ++ dArg dd)) ρ2 := rfl
theorem xMakD_ap {c : Str} {m : Fm} {is : List Nat} {dd : List D} {a b : En → Ou (List Ar)} : xMakD c m is dd a b ρ = (a ρ).bn fun as ρ1 => (b ρ1).bn fun bs ρ2 => mkM c m (pick is (.inr ρ2.length :: as ++ bs ++ dArg dd)) ρ2 := rfl
theorem xMthV_ap {c mn : Str} {m : Fm} {is : List Nat} {dd : List D} {a b : En → Ou (List Ar)} : xMthV c mn m is dd eo a b ρ = (eo ρ).bn fun r ρ1 => (match rcvV c mn r ρ1 with
  | some (ar, ρ2) => (a ρ2).bn fun as ρ3 => (b ρ3).bn fun bs ρ4 => calM m (pick is (ar :: as ++ bs ++ dArg dd)) ρ4
  | none => .st) := rfl
theorem rcvV_ap {c mn : Str} {r : R} : rcvV c mn r ρ = (match toVal r ρ with
  | some (.ins c' fs, ρ') => if c' = c ∧ (fs.lookup mn).isNone = true then some (.inl (.ins c' fs), ρ') else none
  | _ => none) := rfl
theorem sFldX_ap {f : Str} : sFldX i f ea ρ = (vl ea ρ).bn fun d ρ1 => (match ρ1[i]? with
  | some (some (.O c fs)) => if fs.length < 1000 ∧ isX c = false then .ok .nx (ρ1.set i (some (.O c (putFD f d fs)))) else .st
  | _ => .st) := rfl
@[simp] theorem putFD_nil {f : Str} : putFD f d [] = [(f, d)] := rfl
theorem putFD_cons {f k : Str} {x : D} {r : List (Str × D)} : putFD f d ((k, x) :: r) = if k = f then (k, d) :: r else (k, x) :: putFD f d r := rfl
theorem xSpI_ap {c : Str} {m : Fm} {f : R → En → Ou R} : xSpI c m f eo ρ = (vl eo ρ).bn fun d ρ1 => (match d with
  | .ins c' fs => if c' = c then (calM m [.inl (.ins c' fs)] ρ1).bn f else .st
  | _ => .st) := rfl
@[simp] theorem lenB_ap {n : Int} : lenB (.v (.int n)) ρ = if 0 ≤ n ∧ n < 9223372036854775808 then .ok (.v (.int n)) ρ else .st := rfl
@[simp] theorem repB_ap {z : Str} : repB (.v (.str z)) ρ = .ok (.v (.str z)) ρ := rfl
-- texts
@[simp] theorem fmtD_i {z : Int} : fmtD (.int z) = if z.natAbs.log2 < 1920 then some (.v (.str (toString z))) else none := rfl
@[simp] theorem fmtD_s {z : Str} : fmtD (.str z) = if z.length ≤ sizeLine then some (.v (.str z)) else none := rfl
@[simp] theorem xFS_ap {es : List (En → Ou R)} : xFS es ρ = (xJs es Str.empty ρ).bn fun z ρ1 => .ok (.v (.str z)) ρ1 := rfl
@[simp] theorem xJs_nil {acc : Str} : xJs [] acc ρ = .ok acc ρ := rfl
@[simp] theorem xJs_cons {es : List (En → Ou R)} {acc : Str} : xJs (ea :: es) acc ρ = (ea ρ).bn fun r ρ1 => (match r with
    | .v (.str y) => if (acc ++ y).length ≤ sizeLine then xJs es (acc ++ y) ρ1 else .st
    | _ => .st) := rfl
@[simp] theorem listS_s {z : Str} : listS [.str z] = if z.length ≤ sizeLine then some (.o (.L (z.cps.toList.map fun c => .str ⟨#[c]⟩))) else none := rfl
-- numbers
@[simp] theorem andD_ii {a b : Int} : andD (.int a) (.int b) = some (.v (.int (Builtin.bitAnd a b))) := rfl
@[simp] theorem xorD_ii {a b : Int} : xorD (.int a) (.int b) = some (.v (.int (Builtin.bitXor a b))) := rfl
@[simp] theorem xRgB_ap {e : En → Ou (List R)} : xRgB e ρ = (e ρ).bn fun rs ρ1 => (match rs with
  | [.v (.int n)] => if rgOk 0 n then .ok (0, n) ρ1 else .st
  | [.v (.int a), .v (.int b)] => if rgOk a b then .ok (a, b) ρ1 else .st
  | _ => .st) := rfl
@[simp] theorem xLenRg_ap {e : En → Ou (Int × Int)} : xLenRg e ρ = (e ρ).bn fun p ρ1 => .ok (.v (.int ((p.2 - p.1).toNat : Nat))) ρ1 := rfl
@[simp] theorem xLstRg_ap {e : En → Ou (Int × Int)} : xLstRg e ρ = (e ρ).bn fun p ρ1 => .ok (.o (.L (rngD p.1 p.2))) ρ1 := rfl
@[simp] theorem xTupRg_ap {e : En → Ou (Int × Int)} : xTupRg e ρ = (e ρ).bn fun p ρ1 => .ok (.v (.tup (rngD p.1 p.2))) ρ1 := rfl
theorem rgOk_nat {n : Int} (h0 : 0 ≤ n) (h : n ≤ 16777216) : rgOk 0 n = true := by
  unfold rgOk
  simp only [Bool.and_eq_true, decide_eq_true_eq]
  omega
-- dicts
@[simp] theorem ddR_v : ddR (.v d) ρ = isDD d := rfl
@[simp] theorem isDD_T {es : List (List L2.Key × D)} : isDD (.dT es) = true := rfl
@[simp] theorem isDD_K {es : List (L2.Key × D)} : isDD (.dK es) = true := rfl
theorem getB_ap {rd ra rb : R} : getB rd ra rb ρ = (match pk rd ρ, pk ra ρ with
  | some d, some k => (match dgetD d k with
    | some (some v) => .ok (.v v) ρ
    | some none => .ok rb ρ
    | none => .st)
  | _, _ => .st) := rfl
theorem xGet2_ap : xGet2 eo ea eb ρ = (eo ρ).bn fun rd ρ1 => if ddR rd ρ1 = true then (ea ρ1).bn fun ra ρ2 => (eb ρ2).bn fun rb ρ3 => getB rd ra rb ρ3 else .st := rfl
theorem xGet1_ap : xGet1 eo ea ρ = (eo ρ).bn fun rd ρ1 => if ddR rd ρ1 = true then (ea ρ1).bn fun ra ρ2 => getB rd ra (.v .non) ρ2 else .st := rfl
@[simp] theorem xPrs_nil : xPrs [] ρ = .ok [] ρ := rfl
@[simp] theorem xPrs_cons {r : List ((En → Ou R) × (En → Ou R))} : xPrs ((ea, eb) :: r) ρ = (ea ρ).bn fun ra ρ1 => (vl eb ρ1).bn fun d ρ2 => (xPrs r ρ2).bn fun ps ρ3 => (match ra with
    | .v x => (match keyD x with
      | some k => .ok ((k, d) :: ps) ρ3
      | none => .st)
    | _ => .st) := rfl
@[simp] theorem xDisp_ap {prs : List ((En → Ou R) × (En → Ou R))} : xDisp prs ρ = (xPrs prs ρ).bn fun ps ρ1 => if ps.length ≤ 15 then .ok (.o (.dK (mergeD [] ps))) ρ1 else .st := rfl
@[simp] theorem keyD_i {z : Int} : keyD (.int z) = some (.inl z) := rfl
@[simp] theorem keyD_s {z : Str} : keyD (.str z) = some (.inr z) := rfl
-- sets
@[simp] theorem xSrtS_ap {s : En → Ou (List L2.Key)} : xSrtS s ρ = (s ρ).bn fun ks ρ1 => if sortOk (ks.map kD) = true then .ok (.o (.L (sortD (ks.map kD)))) ρ1 else .st := rfl
@[simp] theorem xLenS_ap {s : En → Ou (List L2.Key)} : xLenS s ρ = (s ρ).bn fun ks ρ1 => .ok (.v (.int ks.length)) ρ1 := rfl
@[simp] theorem xSetX_ap {a : En → Ou (List R)} : xSetX a ρ = (a ρ).bn fun rs ρ1 => (match pks ρ1 rs with
  | some ds => (match setD ds with
    | some ks => .ok ks ρ1
    | none => .st)
  | none => .st) := rfl
end
/-! ### loops -/
theorem whl_T {t : En → Ou Bool} {b : En → Ou Fl} {n : Nat} {ρ ρ1 ρ2 : En} (h : t ρ = .ok true ρ1) (h2 : b ρ1 = .ok .nx ρ2) : whl t b (n + 1) ρ = whl t b n ρ2 := by
  conv => lhs; unfold whl
  rw [h, Ou.bn_ok, if_pos rfl, h2]
  rfl
theorem whl_F {t : En → Ou Bool} {b : En → Ou Fl} {n : Nat} {ρ ρ1 : En} (h : t ρ = .ok false ρ1) : whl t b (n + 1) ρ = .ok .nx ρ1 := by
  conv => lhs; unfold whl
  rw [h, Ou.bn_ok, if_neg (by decide)]
theorem xSetC_ap {xi : En → Ou (List D)} {g : D → En → Ou Unit} {t : En → Ou Bool} {e : En → Ou R} {vs : List Nat} {ρ : En} : xSetC xi g t e vs ρ = (xi ρ).bn fun items ρ1 => (noEr (acL adK g t (bOne e) vs items [] (wipE ρ1 vs))).bn fun b ρb => .ok b (unw ρ1 ρb vs) := rfl
@[simp] theorem acL_nil {β : Type} {ad : β → List D → Option β} {g : D → En → Ou Unit} {t : En → Ou Bool} {e : En → Ou (List D)} {vs : List Nat} {acc : β} {ρ : En} : acL ad g t e vs [] acc ρ = .ok acc ρ := rfl
@[simp] theorem forL_nil {g : D → En → Ou Unit} {b : En → Ou Fl} {ρ : En} : forL g b [] ρ = .ok .nx ρ := rfl
theorem forL_cons {g : D → En → Ou Unit} {b : En → Ou Fl} {d : D} {ds : List D} {ρ : En} : forL g b (d :: ds) ρ = (g d ρ).bn fun _ ρ1 => (b ρ1).bn fun f ρ2 => (match f with
  | .nx => forL g b ds ρ2
  | .ct => forL g b ds ρ2
  | .bk => .ok .nx ρ2
  | .rt r => .ok (.rt r) ρ2) := by
  conv => lhs; unfold forL
  all_goals rfl
@[simp] theorem sortOk_nil : sortOk [] = true := by simp [sortOk]
@[simp] theorem sortD_nil : sortD [] = [] := rfl
theorem sortD_one (n : Int) : sortD [.int n] = [.int n] := rfl
/-! ### houses -/
/-- a house as its __init__ leaves it -/
def hD (ends : D) (n : Int) (doors : D) : D := .ins "House" [("ends", ends), ("halls", .int n), ("doors", doors)]
theorem fld_ends (ends : D) (n : Int) (doors : D) : fldD "ends" (hD ends n doors) = some (.v ends) := by first | rfl | kernel_rfl
theorem fld_halls (ends : D) (n : Int) (doors : D) : fldD "halls" (hD ends n doors) = some (.v (.int n)) := by first | rfl | kernel_rfl
theorem fld_doors (ends : D) (n : Int) (doors : D) : fldD "doors" (hD ends n doors) = some (.v doors) := by first | rfl | kernel_rfl
theorem put_ends (ends : D) : putFD "ends" ends [] = ([("ends", ends)] : List (Str × D)) := rfl
theorem put_halls (ends h : D) : putFD "halls" h ([("ends", ends)] : List (Str × D)) = ([("ends", ends), ("halls", h)] : List (Str × D)) := by first | rfl | kernel_rfl
theorem put_doors (ends h ds : D) : putFD "doors" ds ([("ends", ends), ("halls", h)] : List (Str × D)) = ([("ends", ends), ("halls", h), ("doors", ds)] : List (Str × D)) := by first | rfl | kernel_rfl
theorem no_meth (ends h ds : D) : ∀ m ∈ (["colours", "through", "doors_at", "opened", "shut", "recoloured", "renumbered"] : List Str), (([("ends", ends), ("halls", h), ("doors", ds)] : List (Str × D)).lookup m).isNone = true := by
  intro m hm
  simp only [List.mem_cons, List.not_mem_nil, or_false] at hm
  rcases hm with rfl | rfl | rfl | rfl | rfl | rfl | rfl <;> first | rfl | kernel_rfl
theorem sortOk_ints {ns : List Int} (h : ns.length ≤ sizeLine) : sortOk (ns.map .int) = true := by
  unfold sortOk
  rw [pys_ints]
  simp only [Bool.and_eq_true, Bool.or_eq_true, List.all_eq_true, List.mem_map, decide_eq_true_eq, List.length_map]
  refine ⟨⟨⟨?_, .inr ?_⟩, ?_⟩, h⟩
  · rintro p ⟨a, _, rfl⟩ q ⟨b, _, rfl⟩; rfl
  · rintro p ⟨a, _, rfl⟩; rfl
  · rintro p ⟨a, _, rfl⟩; simp [PyData.depth]
end Dm
end TxtDm35

section TxtDm36
set_option Elab.async false
set_option linter.all false
set_option maxRecDepth 100000
set_option maxHeartbeats 4000000
/-! Dm36: own exceptions over ValueError, RuntimeError, ArithmeticError: how they are made. -/
namespace Dm
open PySem PySem.Spec PyProof.Rows L2

/-! ### the built-in bases -/
def xTail (B : String) : List Value := [.type B, .type "Exception", .type "BaseException", .type "object"]
/-- own classes, then a built-in one's row -/
def ownsX (B : String) : List Value → Bool
  | .ref _ :: r => ownsX B r
  | l => l == xTail B
structure XBas (B newId initId : String) : Prop where
  ex : ExcBaseFacts B newId initId (xTail B)
  pass : ∀ self : Value, refuseLoop self "__setattr__" (xTail B) = pure ()
theorem xbas_V : XBas "ValueError" "ValueError.__new__" "ValueError.__init__" := ⟨PySem.F.excBase_ValueError, fun self => by kernel_rfl⟩
theorem xbas_R : XBas "RuntimeError" "RuntimeError.__new__" "RuntimeError.__init__" := ⟨PySem.F.excBase_RuntimeError, fun self => by kernel_rfl⟩
theorem xbas_A : XBas "ArithmeticError" "ArithmeticError.__new__" "ArithmeticError.__init__" := ⟨PySem.F.excBase_ArithmeticError, fun self => by kernel_rfl⟩
theorem ownsX_ind {B : String} {P : List Value → Prop} (h0 : P (xTail B)) (h1 : ∀ c r, P r → P (.ref c :: r)) : ∀ l : List Value, ownsX B l = true → P l
  | [], e => by rw [show ([] : List Value) = xTail B from beq_iff_eq.mp e]; exact h0
  | .ref c :: r, e => h1 c r (ownsX_ind h0 h1 r e)
  | .none :: _, e => by rw [beq_iff_eq.mp (show (_ == xTail B) = true from e)]; exact h0
  | .ellipsis :: _, e => by rw [beq_iff_eq.mp (show (_ == xTail B) = true from e)]; exact h0
  | .notImplemented :: _, e => by rw [beq_iff_eq.mp (show (_ == xTail B) = true from e)]; exact h0
  | .bool _ :: _, e => by rw [beq_iff_eq.mp (show (_ == xTail B) = true from e)]; exact h0
  | .int _ _ :: _, e => by rw [beq_iff_eq.mp (show (_ == xTail B) = true from e)]; exact h0
  | .float _ _ :: _, e => by rw [beq_iff_eq.mp (show (_ == xTail B) = true from e)]; exact h0
  | .str _ _ :: _, e => by rw [beq_iff_eq.mp (show (_ == xTail B) = true from e)]; exact h0
  | .bytes _ _ :: _, e => by rw [beq_iff_eq.mp (show (_ == xTail B) = true from e)]; exact h0
  | .type _ :: _, e => by rw [beq_iff_eq.mp (show (_ == xTail B) = true from e)]; exact h0
  | .builtin _ :: _, e => by rw [beq_iff_eq.mp (show (_ == xTail B) = true from e)]; exact h0
theorem ownsX_has {B : String} (Y : String) (l : List Value) (h : ownsX B l = true) : l.contains (.type Y) = (xTail B).contains (.type Y) :=
  ownsX_ind (P := fun l => l.contains (.type Y) = (xTail B).contains (.type Y)) rfl (fun c r ih => by rw [List.contains_cons, ih]; rfl) l h
theorem ownsX_ne {B : String} (l : List Value) (h : ownsX B l = true) : l.isEmpty = false :=
  ownsX_ind (P := fun l => l.isEmpty = false) rfl (fun _ _ _ => rfl) l h
theorem ownsX_pass {B newId initId : String} (b : XBas B newId initId) (self : Value) (l : List Value) (h : ownsX B l = true) : refuseLoop self "__setattr__" l = pure () :=
  ownsX_ind (P := fun l => refuseLoop self "__setattr__" l = pure ()) (b.pass self) (fun c r ih => by rw [refuseLoop_ref]; exact ih) l h
theorem xTail_obj (B : String) : (xTail B).contains (.type "object") = true := by simp [xTail]

/-! ### fields of an exception: the first, a further one -/
section
open PySem.W Builtin Builtin.ObjectAttr
variable {prog : Program} {w : World} {A : Around} {E : Value → Shared → Prop} {R : Result → Shared → Prop} {hp : Heap} {g : Array GenState} {d : Drawn} {t : Nat} {os : OsState} {K : W.Frag} {name : Str} {tk : Tok} {v : Value} {x C : Addr} {fv : Array Value} {cd : ClassData} {B newId initId : String}
theorem xset_new (b : XBas B newId initId) (X : K.In hp) (hx : hp.get? x = some { cls := .ref C, data := .fields fv }) (hcd : clsIn K C = some cd) (hm : ownsX B cd.mro = true) (hh : cd.hasDict = true) (ha : findIn K (.ref C) name = some none)
    (hq : ∀ h' tk' dx, (∀ b o, b ≠ x → hp.get? b = some o → h'.get? b = some o) → hp.objs.size ≤ dx → dx ≠ x → h'.get? x = some { cls := .ref C, dict := some dx, data := .fields fv } → h'.Ns1 dx (fun y => if y = name then some v else none) → R (.ok (.ret .none)) ⟨h', g, d, tk', os⟩) :
    codeAny (model prog w) A (.call (.builtin "object.__setattr__") ⟨[.ref x, .str name tk, v], []⟩) R ⟨hp, g, d, t, os⟩ := by
  have I : InstAt hp x { cls := .ref C, data := .fields fv } C none := ⟨hx, rfl, rfl, trivial⟩
  have hob : cd.mro.contains (.type "object") = true := (ownsX_has "object" _ hm).trans (xTail_obj B)
  have below : x ≠ hp.objs.size := Nat.ne_of_lt (Heap.lt_size hx)
  have isO : Looks (model prog w) hp (isInstance (.ref x) (.type "object")) true := I.type.andThen (looks_mroIn X (by unfold mroIn; rw [hcd, Option.bind_some, if_neg (by rw [ownsX_ne _ hm]; decide), hob]))
  have lm : Looks (model prog w) hp (mroOf (.ref C)) cd.mro := (looks_clsIn X hcd).andThen .now
  have lt : Looks (model prog w) hp (storeTaker? none) none := .now
  have lc : Looks (model prog w) hp (classData C) cd := looks_clsIn X hcd
  refine codeAny_call_builtin PySem.F.store_object.slot.plain PySem.F.store_object.entry (@check_slot (model prog w) _ _ ⟨hp, g, d, t, os⟩ "object.__setattr__" "object" "__setattr__" (.ref x) [.str name tk, v] [] _ PySem.F.store_object.kind PySem.F.store_object.split isO (PySem.F.store_object.args (.ref x) (.str name tk) v) ?_)
  rw [osa_eq, refuse_eq]
  refine wpAny_bind (wpAny_bind (I.type.at (wpAny_bind (lm.at ?_))))
  rw [ownsX_pass b _ _ hm]
  refine wpAny_pure (wpAny_bind (I.type.at (wpAny_bind ((looks_findIn X ha).at (wpAny_bind (lt.at ?_))))))
  show wpAny _ _ (storeInOwnDict (.ref x) (.ref C) (.str name tk) name v false) _ _ _
  obtain ⟨nm, bs, mro, ns, qn, hd, sn, sb, ab, col, del⟩ := cd
  dsimp only at hh
  subst hh
  unfold storeInOwnDict ownDictForStores
  repeat (first | with_reducible refine PySem.HandSPX.store_in_new ?_ ?_ | with_reducible refine wpAny_loadPart_at hx ?_ | with_reducible refine lc.at ?_ | wp_step)
  · exact ⟨_, #[], _, (Heap.get?_update_ne _ _ _ _ below.symm).trans (Heap.get?_push_at rfl rfl), rfl, fun e he => absurd he (by simp), fun _ => rfl⟩
  · intro h' tk' hn' hs
    refine hq h' tk' hp.objs.size (fun c o hc ho => ?_) (Nat.le_refl _) below.symm ?_ hn'
    · exact (hs.2 c (Nat.ne_of_lt (Heap.lt_size ho))).trans ((Heap.get?_update_ne _ _ _ _ hc).trans (Heap.get?_push_of_some _ ho))
    · exact (hs.2 x below).trans (Heap.get?_update_self _ (Heap.get?_push_of_some _ hx) rfl)
end

/-! ### what the text says of such a class -/
structure XCls (K : PySem.W.Frag) (B newId : String) (C : Addr) : Prop where
  cls : ∃ nm q N bs bm sn sub ab col dd k0 k1 k2 k3 k5, K.lookup C = some (excClassObj nm q C N bs bm true sn sub ab col dd k0 k1 k2 k3 k5 newId) ∧ ownsX B bm = true
  sa : PySem.W.findIn K (.ref C) "__setattr__" = some (some (.builtin "object.__setattr__"))
  exC : PySem.W.subIn K (.ref C) (.type "BaseException") = some true
  tyC : PySem.W.typeIn K (.ref C) = some (.type "type")
  kC : PySem.W.keepIn K (.ref C) = true
section
variable {X : Cx} {pins : List (Addr × Obj)} {σ : L2.St} {H : Hp} {s : Shared} {a C dx : Addr} {f : Str} {y : V} {u : Value} {fs : List (Str × V)} {Q : Unit → Shared → Prop} {E : Value → Shared → Prop} {A : Around} {B newId initId : String}
/-- self.f = y, the first field -/
theorem xfld_new (b : XBas B newId initId) (T : XCls X.K B newId C) (I : Inv X pins σ H s) (e : H a = some (exo a C none)) (hno : PySem.W.findIn X.K (.ref C) f = some none) (ry : RelV y u)
    (h : ∀ dx s', H dx = none → dx ≠ a → Inv X pins σ (upd (upd H dx (exd dx [(f, y)])) a (exo a C (some dx))) s' → Q () s') : wpAny (model X.prog X.w) A (setAttr (.ref a) f u) Q E s := by
  obtain ⟨nm, q, N, bs, bm, sn, sub, ab, col, dd, k0, k1, k2, k3, k5, hC, hbm⟩ := T.cls
  have hcl : PySem.W.clsIn X.K C = some { name := nm, bases := bs, mro := .ref C :: bm, ns := N, qualname := q, hasDict := true, slotNames := sn, subclasses := sub, abstract := ab, collection := col, hasDel := false } := by unfold PySem.W.clsIn; rw [hC] <;> rfl
  obtain ⟨t1, ho⟩ := exo_at I.hok e
  obtain ⟨hp, g, d, t, os⟩ := s
  refine PySem.W.set_plain I.kIn (od := none) (ox := { cls := .ref C, dict := none, data := .fields #[.ref t1, .none, .none, .none, .bool false, .none] }) ⟨ho, rfl, rfl, trivial⟩ T.sa ?_
  refine xset_new b I.kIn ho hcl (show ownsX B (.ref C :: bm) = true from hbm) rfl hno fun h' tk' dx k dn dne hx hn => ?_
  have hnd := I.hok.fresh dn
  have old : ∀ {c : Addr} {o : Obj}, hp.get? c = some o → c ≠ dx := fun {c o} q => Nat.ne_of_lt (Nat.lt_of_lt_of_le (Heap.lt_size q) dn)
  have na : ∀ {c : Addr}, H c = none → c ≠ a := fun {c} n z => by rw [z, e] at n; cases n
  have U : Un X.fs [] H (upd (upd H dx (exd dx [(f, y)])) a (exo a C (some dx))) hp h' := {
    keep := fun c o q n _ _ => k c o (na n) q
    slot := fun c o q n _ _ => ⟨o.slots, k c o (na n) q⟩
    free := fun c o q n _ => by rw [upd_ne (na n), upd_ne (old q)]; exact n
    there := fun c o q _ => by
      by_cases hc : c = a
      · rw [hc]; exact ⟨_, hx⟩
      · exact ⟨o, k c o hc q⟩
    tups := fun c xs q => by rw [upd_ne (at_ne e q exo_tup), upd_ne (ne_of_none q hnd)]; exact q
    frzs := fun c o v q => by rw [upd_ne (at_ne e q exo_frz), upd_ne (ne_of_none q hnd)]; exact q
    tbls := fun c ps q => ⟨#[], by rw [upd_ne (at_ne e q exo_tbl), upd_ne (ne_of_none q hnd), q]; simp⟩ }
  refine h dx _ hnd dne (I.un (t' := tk') U fun c o q => ?_)
  by_cases hc : c = a
  · rw [hc, upd_same] at q
    cases q
    rw [hc]
    exact exo_ok hx
  · rw [upd_ne hc] at q
    by_cases hd : c = dx
    · rw [hd, upd_same] at q
      cases q
      rw [hd]
      exact exd_ok hn (relO_put (fs := []) ry fun _ => trivial)
    · rw [upd_ne hd] at q
      refine (I.hok c o q).stay (fun c' v hc' z => k c' v ?_ z) (fun c' hc' => ?_) fun c' xs hc' => ?_
      · rcases hc' with hc' | hc'
        · rw [hc']; exact hc
        · exact at_ne e hc' exo_own
      · rw [upd_ne (at_ne e hc' exo_own), upd_ne (ne_of_none hc' hnd)]; exact hc'
      · rw [upd_ne (at_ne e hc' exo_tup), upd_ne (ne_of_none hc' hnd)]; exact hc'
/-- B.__init__(self, ..) -/
theorem xinit_ok {us : List Value} {Q : Value → Shared → Prop} (b : XBas B newId initId) (T : XCls X.K B newId C) (I : Inv X pins σ H s) (e : H a = some (exo a C none)) (hl : us.length ≤ sizeLine) (h : ∀ s', Inv X pins σ H s' → Q .none s') :
    wpAny (model X.prog X.w) A (call (.builtin initId) (.ref a :: us)) Q E s := by
  obtain ⟨nm, q, N, bs, bm, sn, sub, ab, col, dd, k0, k1, k2, k3, k5, hC, hbm⟩ := T.cls
  obtain ⟨t1, ho⟩ := exo_at I.hok e
  obtain ⟨hp, g, d, t, os⟩ := s
  refine wpAny_call (PySem.HandSPX.init_base b.ex (fun Y => ownsX_has Y bm hbm) (I.kIn _ _ hC) ho hl fun h' t2 k hx => ?_)
  have J := I.write (t' := t) (x := a) (e := a) (o := exo a C none) (by rw [e]; trivial) (.inl rfl) k ⟨_, hx⟩ (exo_ok hx)
  rw [show upd H a (exo a C none) = H from funext fun c => by
    by_cases hc : c = a
    · rw [hc, upd_same, e]
    · rw [upd_ne hc]] at J
  exact h _ J
end
end Dm
end TxtDm36

section TxtDm37
set_option Elab.async false
set_option linter.all false
set_option maxRecDepth 100000
set_option maxHeartbeats 4000000
/-! Dm37: raise C(e), C an own exception class with one field. -/
namespace Dm
open PySem PySem.Spec PyProof.Rows L2

/-! ### Base.__init__(self, ..) -/
structure XBase (K : PySem.W.Frag) (initId : String) (CB : Addr) : Prop where
  rd : PySem.W.readsIn K CB (.type "type") = true
  ga : PySem.W.specialIn K (.ref CB) "__getattribute__" = some (some (.builtin "type.__getattribute__"))
  at_ : PySem.W.findCls K (.ref CB) (.type "type") "__init__" = some (.val (.builtin initId))
def tXI (K : PySem.W.Frag) (B newId : String) (ta : TA) : TE := fun σ H Q => ta σ H fun vs H1 => ∃ (a C : Addr) (ws : List V), vs = .ref a :: ws ∧ ws.length ≤ 1000 ∧ XCls K B newId C ∧ H1 a = some (exo a C none) ∧ Q .non H1
def tXF (K : PySem.W.Frag) (B newId : String) (f : Str) (to te : TE) : TS := fun D σ H => te σ H fun y H1 => to σ H1 fun x H2 => ∃ a C : Addr, x = .ref a ∧ XCls K B newId C ∧ PySem.W.findIn K (.ref C) f = some none ∧ H2 a = some (exo a C none) ∧
  ∀ dx, H2 dx = none → dx ≠ a → D.nx σ (upd (upd H2 dx (exd dx [(f, y)])) a (exo a C (some dx)))
section
variable {X : Cx} {o e : Expr} {es : List Expr} {to te : TE} {ta : TA} {f x : Str} {p p' p1 p2 pos : Pos} {B newId initId : String} {CB : Addr}
theorem pe_xinit {pl : Sem Bool} (b : XBas B newId initId) (hh : PySem.W.handedIn (.builtin initId) = true) (XB : XBase X.K initId CB) (hm : X.mg x = some (.ref CB)) (ha : PA X (e :: es) ta) (hg : Gl X x := by rfl) (hdb : (x == ("__debug__" : Str)) = false := by decide)
    (hc : eval (.Call (.Attribute (.Name x p1) "__init__" p2) (e :: es) [] pos) X.env = (do
      let ov ← eval (.Name x p1) X.env
      standAt p2.atName
      let (f, first) ← holding [ov] (getMethod ov "__init__" pl)
      callWith pos f first (backTo pos (starEach (e :: es) X.env)) (backToKw pos (keywordEach [] X.env))) := by rfl)
    (he : starEach (e :: es) X.env = (false, eval e X.env) :: starEach es X.env := by rfl) (hpl : (backTo pos (starEach es X.env)).any (·.1) = false := by rfl) :
    PE X (.Call (.Attribute (.Name x p1) "__init__" p2) (e :: es) [] pos) (tXI X.K B newId ta) := by
  refine ⟨fun pins s σ H Q I h => ?_⟩
  refine PySem.W.methodCall_KW (ld_glob I hg hm ?_ hdb) hc
  refine PySem.W.method_cls I.kIn XB.ga (PySem.W.cls_value I.kIn XB.rd XB.at_ hh ?_)
  have I' := I.tok (s.toks + 1)
  show wpAny _ _ (callWith pos (Value.builtin initId) [] (backTo pos (starEach (e :: es) X.env)) []) _ _ _
  refine PyProof.Rows.callWith_method1 (thn (ha.run pos pins _ σ H _ I' h) fun us s1 ⟨vs, H1, I1, r1, a, C, ws, ev, hl, T, ea, q⟩ => ?_) he hpl
  subst ev
  cases r1 with
  | @cons _ u0 _ ur ra rw' =>
    obtain rfl : u0 = Value.ref a := ra
    have hlen : ur.length ≤ sizeLine := by rw [← Paired.length rw', sizeLine_eq]; omega
    exact xinit_ok b T I1 ea hlen fun s' J => ⟨.non, H1, J, rfl, q⟩
theorem ps_xfld (b : XBas B newId initId) (ho : PE X o to) (he : PE X e te) (hs : swapsWith e (some (.Attribute o f p')) pos.line X.env = pure false := by rfl) : PS X (.Assign [.Attribute o f p'] e pos) (tXF X.K B newId f to te) := by
  refine ⟨fun pins s σ H D I h => ?_⟩
  refine plainObj_wpAny_Assign_Attribute (thn (he.run pins s σ H _ I h) fun v s1 ⟨y, H1, I1, r1, q1⟩ => thn (ho.run pins s1 σ H1 _ I1 q1) fun u s2 ⟨x, H2, I2, r2, a, C, ex, T, hno, ea, q⟩ => ?_) hs
  subst ex
  obtain rfl : u = Value.ref a := r2
  exact xfld_new b T I2 ea hno r1 fun dx s' n ne J => ⟨σ, _, J, q dx n ne⟩
/-- {x}, x None, a text or an int -/
def okF : V → Bool
  | .non => true
  | .int i => decide (i.natAbs.log2 < 1920)
  | .str z => decide (z.length ≤ 100000)
  | _ => false
theorem int_len {i : Int} (h : i.natAbs.log2 < 1920) : (Str.ofString (toString i)).length ≤ 100000 := by
  have e := int_text_length_le (k := 1920) (by decide) h
  rw [PySem.ofString_length]
  omega
def tFmtN (te : TE) : TE := fun σ H Q => te σ H fun x H1 => okF x = true ∧ ∀ m : Str, m.length ≤ 100000 → Q (.str m) H1
theorem pe_fmtN {te : TE} (he : PE X e te) : PE X (.FormattedValue e (-1) none pos) (tFmtN te) := by
  refine ⟨fun pins s σ H Q I h => wpAny_FormattedValue_plain (thn (he.run pins s σ H _ I h) fun v s1 ⟨x, H1, I1, r1, ok, q⟩ => ?_)⟩
  cases x with
  | non =>
    obtain rfl : v = Value.none := r1
    exact wpAny_formatField_none ⟨.str "None", H1, (I1.tok _).tok _, ⟨_, rfl⟩, q _ (by decide +kernel)⟩
  | int i =>
    obtain ⟨t, rfl⟩ := r1
    have hz : i.natAbs.log2 < 1920 := of_decide_eq_true ok
    exact wpAny_formatField_int hz ⟨.str (toString i), H1, I1.tok _, ⟨_, rfl⟩, q _ (int_len hz)⟩
  | str z =>
    obtain ⟨t, rfl⟩ := r1
    have hz : z.length ≤ 100000 := of_decide_eq_true ok
    exact wpAny_formatField_str ⟨.str z, H1, I1, ⟨t, rfl⟩, q _ hz⟩ ⟨.str z, H1, I1.tok _, ⟨_, rfl⟩, q _ hz⟩ (by rw [sizeLine_eq]; omega)
  | _ => cases ok
end

/-! ### __init__(self, p): Base.__init__(self, <a text>); self.p = p -/
/-- the text: of whatever p is (fm: p is written into it) -/
def XMsg (fm : Bool) (tm : TE) : Prop := ∀ (σ : L2.St) (H : Hp) (Q : VK) (y : V), σ[1]? = some (some y) → (fm = true → okF y = true) → (∀ m : Str, Q (.str m) H) → tm σ H Q
theorem xmsg_c {m : Str} : XMsg false (tC (.str m)) := fun σ H Q y _ _ q => q m
theorem tvar_at {σ : L2.St} {H : Hp} {i : Nat} {y : V} (Q : VK) (h : σ[i]? = some (some y)) (q : Q y H) : tVar i σ H Q := by
  first | exact ⟨y, h, q⟩ | (unfold tVar; rw [h]; exact q)
theorem tfmt_at {σ : L2.St} {H : Hp} {y : V} {Q : VK} (h : σ[1]? = some (some y)) (o : okF y = true) (q : ∀ m : Str, m.length ≤ 100000 → Q (.str m) H) : tFmtN (tVar 1) σ H Q :=
  tvar_at (fun x H1 => okF x = true ∧ ∀ m : Str, m.length ≤ 100000 → Q (.str m) H1) h ⟨o, q⟩
theorem app_le {a b : Str} {n m : Nat} (h1 : a.length ≤ n) (h2 : b.length ≤ m) : (a ++ b).length ≤ n + m := by rw [app_len]; omega
theorem e_app {a : Str} (ha : a.length ≤ 1000) : (Str.empty ++ a).length ≤ 1000 := by rw [app_len]; show 0 + a.length ≤ 1000; omega
theorem xmsg_3 {a b : Str} (ha : a.length ≤ 1000) (hb : b.length ≤ 1000) : XMsg true (fun σ H Q => tJs [tC (.str a), tFmtN (tVar 1), tC (.str b)] Str.empty σ H fun out H1 => Q (.str out) H1) := by
  intro σ H Q y h ok q
  show ∃ z : Str, V.str a = .str z ∧ _ ∧ tJs [tFmtN (tVar 1), tC (.str b)] (Str.empty ++ z) σ H _
  refine ⟨a, rfl, by have := e_app ha; rw [sizeLine_eq]; omega, tfmt_at h (ok rfl) fun m hm => ⟨m, rfl, ?_, ?_⟩⟩
  · have := app_le (e_app ha) hm; rw [sizeLine_eq]; omega
  · show ∃ z : Str, V.str b = .str z ∧ _ ∧ Q _ H
    refine ⟨b, rfl, ?_, q _⟩
    have := app_le (app_le (e_app ha) hm) hb; rw [sizeLine_eq]; omega
theorem xmsg_2 {a : Str} (ha : a.length ≤ 1000) : XMsg true (fun σ H Q => tJs [tC (.str a), tFmtN (tVar 1)] Str.empty σ H fun out H1 => Q (.str out) H1) := by
  intro σ H Q y h ok q
  show ∃ z : Str, V.str a = .str z ∧ _ ∧ tJs [tFmtN (tVar 1)] (Str.empty ++ z) σ H _
  refine ⟨a, rfl, by have := e_app ha; rw [sizeLine_eq]; omega, tfmt_at h (ok rfl) fun m hm => ⟨m, rfl, ?_, q _⟩⟩
  have := app_le (e_app ha) hm; rw [sizeLine_eq]; omega
theorem xmsg_1 {b : Str} (hb : b.length ≤ 1000) : XMsg true (fun σ H Q => tJs [tFmtN (tVar 1), tC (.str b)] Str.empty σ H fun out H1 => Q (.str out) H1) := by
  intro σ H Q y h ok q
  have ea : Str.empty.length ≤ 0 := Nat.le_refl _
  refine tfmt_at h (ok rfl) fun m hm => ⟨m, rfl, ?_, ?_⟩
  · have := app_le ea hm; rw [sizeLine_eq]; omega
  · show ∃ z : Str, V.str b = .str z ∧ _ ∧ Q _ H
    refine ⟨b, rfl, ?_, q _⟩
    have := app_le (app_le ea hm) hb; rw [sizeLine_eq]; omega
/-- what such an __init__ promises -/
def spXI (C : Addr) (f : Str) (fm : Bool) : Sp := fun vs H Q _ => ∃ (a : Addr) (y : V), vs = [.ref a, y] ∧ H a = some (exo a C none) ∧ (fm = true → okF y = true) ∧ ∀ dx, H dx = none → dx ≠ a → Q .non (upd (upd H dx (exd dx [(f, y)])) a (exo a C (some dx)))
section
variable {P : Program} {w : World} {K : PySem.W.Frag} {mg : Str → Option Value} {base : Heap} {x qual p f : Str} {st : Stmt} {fa C : Addr} {fd : FuncData} {B newId : String} {fm : Bool}
theorem xinit_fn (F : Fun K x qual st fa fd) (S : FnScope ["self", p] ["self", p] (defScope st)) (TC : XCls K B newId C) (hno : PySem.W.findIn K (.ref C) f = some none)
    (hb : ∀ (cdv : Value) (A : Around) (outer : List Env) (s : Shared) (H : Hp) (E : XK), ∃ tm, XMsg fm tm ∧ PSs (cxOf (L2.CX P w) P w K mg base ["self", p] qual (defScope st) fa cdv A outer s H E) (defBody st) (tSeq (tDrop (tXI K B newId (tCons (tVar 0) (tCons tm tNil)))) (tXF K B newId f (tVar 0) (tVar 1)))) :
    FnOk P w K mg base (L2.CX P w) 1 fa fd ["self", p] (spXI C f fm) := by
  refine F.okX S (fun vs H Q E ⟨a, y, e, _⟩ => by rw [e]; rfl) fun cdv A outer s H vs Q E hr h => ?_
  obtain ⟨a, y, rfl, ha, ok, q⟩ := h
  obtain ⟨tm, hm, hp⟩ := hb cdv A outer s H E
  refine ⟨_, hp, ?_⟩
  have e0 : (start ["self", p] [V.ref a, y])[0]? = some (some (V.ref a)) := rfl
  have e1 : (start ["self", p] [V.ref a, y])[1]? = some (some y) := rfl
  show tVar 0 _ H fun v H1 => tm _ H1 fun u H2 => ∃ (a' C' : Addr) (ws : List V), [v, u] = .ref a' :: ws ∧ ws.length ≤ 1000 ∧ XCls K B newId C' ∧ H2 a' = some (exo a' C' none) ∧ tXF K B newId f (tVar 0) (tVar 1) _ _ H2
  refine tvar_at _ e0 (hm _ _ _ y e1 ok fun m => ⟨a, C, [.str m], rfl, (by show 1 ≤ 1000; decide), TC, ha, ?_⟩)
  exact tvar_at _ e1 (tvar_at _ e0 ⟨a, C, rfl, TC, hno, ha, fun dx n ne => q dx n ne⟩)
end
end Dm
end TxtDm37

section TxtDm38
set_option Elab.async false
set_option linter.all false
set_option maxRecDepth 100000
set_option maxHeartbeats 4000000
/-! Dm38: C(e), C such a class; raise C(e) as a rule. -/
namespace Dm
open PySem PySem.Spec PyProof.Rows L2

/-- what a class of exceptions wants, for its instances to be made -/
structure XMk (K : PySem.W.Frag) (B newId : String) (C fI : Addr) : Prop where
  T : XCls K B newId C
  iC : PySem.W.findIn K (.ref C) "__init__" = some (some (.ref fI))
  tI : PySem.W.typeIn K (.ref fI) = some (.type "function")
section
variable {X : Cx} {x : Str} {C fI : Addr} {k : Nat} {fd : FuncData} {ps : List Str} {sp : Sp} {B newId initId : String} {e : Expr} {es : List Expr} {ta : TA} {p pos : Pos}
theorem pmk_x (b : XBas B newId initId) (M : XMk X.K B newId C fI) (G : FnOk X.prog X.w X.K X.mg X.base (L2.CX X.prog X.w) k fI fd ps sp) (hr : Room (k + 1) X.A) (hb : Binds X.K fd ps []) (hx : Passes (L2.CX X.prog X.w) X (fun _ _ _ => False)) (hm : X.mg x = some (.ref C)) (ha : PA X (e :: es) ta) (hg : Gl X x := by rfl)
    (hdb : (x == ("__debug__" : Str)) = false := by decide) (he : starEach (e :: es) X.env = (false, eval e X.env) :: starEach es X.env := by rfl) (hpl : (backTo pos (starEach es X.env)).any (·.1) = false := by rfl) :
    PMk X (.Call (.Name x p) (e :: es) [] pos) (tMkO C sp [] ta) := by
  intro pins s σ H Q I h
  obtain ⟨nm, q, N, bs, bm, sn, sub, ab, col, dd, k0, k1, k2, k3, k5, hC, hbm⟩ := M.T.cls
  refine wpAny_Call_Name_kw (ld_glob I hg hm ?_ hdb)
  refine PySem.W.callWith_K (h₀ := X.base) I.ok.mod.kin M.T.kC (thn (ha.run pos pins s σ H _ I h) fun us s1 ⟨vs, H1, I1, r1, hz, q1⟩ => ⟨I1.kIn, ?_⟩) he hpl
  show wpAny _ _ (call (.ref C) us) _ _ _
  obtain ⟨hp, g, dr, tk, os⟩ := s1
  have above : hp.objs.size ≤ hp.objs.size + 1 := Nat.le_succ _
  have hn := I1.hok.fresh above
  have w0 := q1 (hp.objs.size + 1) hn
  have old : ∀ c o, hp.get? c = some o → ((hp.push (PySem.W.kdv_tup us)).push (PySem.HandSPX.excO C hp.objs.size)).get? c = some o := fun c o e => Heap.get?_push_of_some _ (Heap.get?_push_of_some _ e)
  have new : ((hp.push (PySem.W.kdv_tup us)).push (PySem.HandSPX.excO C hp.objs.size)).get? (hp.objs.size + 1) = some (PySem.HandSPX.excO C hp.objs.size) := by heap_get
  have I2 := I1.laid (t' := tk) (a := hp.objs.size + 1) (o := exo (hp.objs.size + 1) C none) (h' := (hp.push (PySem.W.kdv_tup us)).push (PySem.HandSPX.excO C hp.objs.size)) old above (exo_ok new)
  have rv : Vals (V.ref (hp.objs.size + 1) :: vs) (Value.ref (hp.objs.size + 1) :: us) := .cons rfl r1
  rw [List.append_nil] at w0
  have hl : (Value.ref (hp.objs.size + 1) :: us).length = ps.length := by rw [← rv.length]; exact G.len _ _ _ _ w0
  have hus : us.length ≤ sizeLine := by rw [← Paired.length r1, sizeLine_eq]; omega
  have bnd := hb ⟨(hp.push (PySem.W.kdv_tup us)).push (PySem.HandSPX.excO C hp.objs.size), g, dr, tk, os⟩ (Value.ref (hp.objs.size + 1) :: us) I2.kIn (by rw [List.append_nil]; exact hl)
  rw [List.append_nil] at bnd
  refine wpAny_call (PySem.HandSPX.call_own b.ex (fun Y => ownsX_has Y bm hbm) (I1.kIn _ _ hC) (PySem.W.looks_findIn I1.kIn M.iC) (fun self => PySem.W.bind_fn I1.kIn self M.tI) hus
    (codeAny_mono (G.run _ X.stack _ _ ⟨Value.ref (hp.objs.size + 1) :: us, []⟩ (Value.ref (hp.objs.size + 1) :: us) _ _ (fun _ _ _ => False) (hr.make C us []) (I2.env0.make C us []) bnd rv w0) fun r s' hq' => ?_))
  cases r with
  | error er => exact hx pins σ _ _ er s' I2 hq'
  | ok fl =>
    cases fl with
    | ret u =>
      obtain ⟨v, H2, os2, bare2, un2, hok2, ru, ev, d, fs, ea, ed, hd1, q2⟩ := hq'
      subst ev
      obtain ⟨h2, g2, d2, t2, os'⟩ := s'
      exact ⟨ru, mk_end (raises_own M.T.exC M.T.tyC) I1 above old un2 hok2 os2 bare2 ea ed hd1 q2⟩
    | next => exact False.elim hq'
    | brk => exact False.elim hq'
    | cont => exact False.elim hq'
end

/-! ### raise C(e) -/
def okFD : D → Bool
  | .non => true
  | .int i => decide (i.natAbs.log2 < 1920)
  | .str z => decide (z.length ≤ 100000)
  | _ => false
def sRz (c f : Str) (fm : Bool) (ex : En → Ou R) : En → Ou Fl := fun ρ => (vl ex ρ).bn fun d ρ1 => if fm = true → okFD d = true then .er (.exc c [(f, d)]) ρ1 else .st
theorem okFD_ok {K : PySem.W.Frag} {cl : Str → Option Addr} {F : Hp} {x : V} {d : D} (r : Rep K cl F x d) (h : okFD d = true) : okF x = true := by
  cases r <;> first | exact h | cases h
section
variable {K : PySem.W.Frag} {cl : Str → Option Addr} {W : WX} {pn : Nat → Bool}
theorem ev_raise {c f : Str} {C : Addr} {fm : Bool} {te : TE} {ex : En → Ou R} (hcl : cl (xk c) = some C) (he : EvE K cl W te ex) : EvS K cl pn W (fun _ σ H => tMkO C (spXI C f fm) [] (tCons te tNil) σ H fun cls d H' => W cls d σ H') (sRz c f fm ex) := by
  intro F σ H ρ D S q
  show te σ H fun x H1 => ([x] : List V).length ≤ 1000 ∧ _
  refine he.val.then (P := PstS K cl pn W D σ ρ F H) S q (fun z => z) (fun y ρ' q c d F' H' S' s' er => q c d σ F' H' S' s'.wk er) fun d ρ1 q1 x F1 H1 S1 s1 rp => ?_
  split at q1
  · rename_i hok
    refine ⟨(by show 1 ≤ 1000; decide), fun a na => ⟨a, x, rfl, upd_same, fun z => okFD_ok rp (hok z), fun dx n ne => ⟨rfl, dx, [(f, x)], upd_same, by rw [upd_ne ne, upd_same], ?_, ?_⟩⟩⟩
    · rw [upd_ne ne] at n; exact n
    · have nd : H1 dx = none := by rw [upd_ne ne] at n; exact n
      have eH : upd (del (upd (upd (upd H1 a (exo a C none)) dx (exd dx [(f, x)])) a (exo a C (some dx))) a) dx (.xd [(f, x)]) = upd H1 dx (.xd [(f, x)]) := by
        funext b
        by_cases hb : b = dx
        · rw [hb, upd_same, upd_same]
        · rw [upd_ne hb, upd_ne hb]
          by_cases ha : b = a
          · rw [ha, del_same, na]
          · rw [del_ne ha, upd_ne ha, upd_ne hb, upd_ne ha]
      rw [eH]
      have g : Grow F1 H1 (upd F1 dx (.xd [(f, x)])) (upd H1 dx (.xd [(f, x)])) := Grow.newF S1.sub nd
      exact q1 (.ref C) (some dx) σ _ _ (g.sta S1) (s1.trans g.stp).wk ⟨c, [(f, d)], C, dx, [(f, x)], rfl, hcl, rfl, rfl, upd_same, RepKs.cons rfl (rp.mono g.mono) RepKs.nil⟩
  · exact q1.elim
end
section
variable {cl : Str → Option Addr} {X : Cx} {x c f p' : Str} {C fI : Addr} {fd : FuncData} {B newId initId : String} {e : Expr} {ex : En → Ou R} {p pos rpos : Pos} {pn : Nat → Bool} {fm : Bool} {j : Nat}
theorem es_raise (b : XBas B newId initId) (M : XMk X.K B newId C fI) (G : FnOk X.prog X.w X.K X.mg X.base (L2.CX X.prog X.w) 1 fI fd ["self", p'] (spXI C f fm)) (hr : Rm j X.A) (hb : Binds X.K fd ["self", p'] []) (hm : X.mg x = some (.ref C)) (hcl : cl (xk c) = some C) (he : EE cl X e ex) (hj : 2 ≤ j := by decide)
    (hc : X.calm = true := by rfl) (hg : Gl X x := by rfl) (hdb : (x == ("__debug__" : Str)) = false := by decide) (hs : starEach [e] X.env = (false, eval e X.env) :: starEach [] X.env := by rfl) (hpl : (backTo pos (starEach [] X.env)).any (·.1) = false := by rfl) :
    ES cl pn X (.Raise (some (.Call (.Name x p) [e] [] pos)) none rpos) (sRz c f fm ex) := fun W tk => by
  obtain ⟨t, pp, v⟩ := he W tk
  exact ⟨_, ps_raise hc tk (pmk_x b M G (hr.room.mono hj) hb (passes_call tk fun _ _ _ _ z => z.elim) hm (pa_cons pp pa_nil hs) hg hdb hs hpl), ev_raise hcl v⟩
end
end Dm
end TxtDm38

section TxtDm39
set_option Elab.async false
set_option linter.all false
set_option maxRecDepth 100000
set_option maxHeartbeats 4000000
/-! Dm39: bool(x), str(x), x an own instance. -/
namespace Dm
open PySem PySem.Spec PyProof.Rows L2

section
variable {X : Cx} {k : Nat} {f C : Addr} {fd : FuncData} {ps : List Str} {sp : Sp} {E : L2.St → XK} {x : Str} {p pos : Pos} {e : Expr} {te : TE}
/-- its truth, by its length -/
theorem truthyI {A : Around} {pins : List (Addr × Obj)} {σ : L2.St} {H : Hp} {s : Shared} {a dx : Addr} {fs : List (Str × V)} {R : Int → Hp → Prop} {Q : Bool → Shared → Prop} (F : FnG X.prog X.w X.K X.mg X.base (L2.CX X.prog X.w) k f fd ps sp) (hr : Rm (k + 1) A)
    (hA : ∀ (s : Shared) (H : Hp), Env0 X.prog X.w X.K X.mg X.base X.A X.stack s H → Env0 X.prog X.w X.K X.mg X.base A X.stack s H) (hb : Binds X.K fd ps []) (hx : PassesAt (L2.CX X.prog X.w) X σ (E σ)) (hi : PySem.W.findIn X.K (.ref C) "__len__" = some (some (.ref f))) (hn : PySem.W.findIn X.K (.ref C) "__bool__" = some none)
    (hf : PySem.W.isFn X.K (.ref f) = true) (I : Inv X pins σ H s) (ha : H a = some (.ins C dx fs)) (q : sp [.ref a] H (fun y H2 => ∃ n : Int, y = .int n ∧ (0 ≤ n ∧ n < 2 ^ 63) ∧ R n H2) (E σ)) (hQ : ∀ (n : Int) (H2 : Hp) (s' : Shared), R n H2 → Inv X pins σ H2 s' → Q (n != 0) s') :
    wpAny (model X.prog X.w) A (truthy (.ref a)) Q X.xe s := by
  obtain ⟨ox, od, J⟩ := inst_of I ha
  have key : wpAny (model X.prog X.w) A (runValue (.builtin "len" ⟨[.ref a], []⟩)) (fun r s' => ∃ n t, r = .int n t ∧ Q (n != 0) s') X.xe s := by
    refine wpAny_runValue (codeAny_builtin entry_len ?_)
    rw [Around.under_plainId plain_len _]
    unfold Builtin.«len»
    refine wpAny_bind (m := oneArg "len" _) (wpAny_pure ?_)
    refine wpAny_bind (m := callSpecial? (.ref a) (Str.ofString "__len__")) (PySem.W.special_fn I.kIn J hi (beq_iff_eq.mp hf) (wpAny_mono (run_at F hr.in1 (fun s H z => (hA s H z).in1) hb hx I q) (fun r s' hr => ?_) fun _ _ y => y))
    obtain ⟨v, H2, I2, rv, n, rfl, ⟨n0, n1⟩, q2⟩ := hr
    obtain ⟨t, rfl⟩ := rv
    refine wpAny_bind (wpAny_holding (wpAny_pure (wpAny_bind (wpAny_letGo ?_))))
    show wpAny _ _ (if n < 0 then _ else if n ≥ 2 ^ 63 then _ else _) _ _ _
    rw [if_neg (Int.not_lt.mpr n0), if_neg (by omega)]
    exact wpAny_bind (wpAny_mkInt (wpAny_pure ⟨n, _, rfl, hQ n H2 _ q2 (I2.tok _)⟩))
  unfold truthy
  refine wpAny_bind (m := callSpecial? (.ref a) (Str.ofString "__bool__")) (wpAny_bind (wpAny_bind (J.type.here ((PySem.W.looks_findIn I.kIn hn).here (wpAny_pure ?_)))))
  refine wpAny_bind (wpAny_bind (J.type.here ((PySem.W.looks_findIn I.kIn hi).here ?_)))
  show wpAny _ _ (if (some (Value.ref f)).isNone = true then _ else _) _ _ _
  rw [if_neg (by simp)]
  refine wpAny_bind (wpAny_mono key (fun r s' ⟨n, t, er, hq⟩ => ?_) fun _ _ y => y)
  subst er
  exact wpAny_pure hq
def wBooI (C : Addr) (sp : Sp) (E : XK) (Q : VK) (x : V) (H1 : Hp) : Prop := ∃ a dx fs, x = .ref a ∧ H1 a = some (.ins C dx fs) ∧ sp [x] H1 (fun y H2 => ∃ n : Int, y = .int n ∧ (0 ≤ n ∧ n < 2 ^ 63) ∧ Q (.bl (n != 0)) H2) E
theorem pe_booI (F : FnG X.prog X.w X.K X.mg X.base (L2.CX X.prog X.w) k f fd ps sp) (hr : Rm (k + 4) X.A) (hb : Binds X.K fd ps []) (hx : ∀ σ, PassesAt (L2.CX X.prog X.w) X σ (E σ)) (hm : X.mg "bool" = none) (hi : PySem.W.findIn X.K (.ref C) "__len__" = some (some (.ref f))) (hn : PySem.W.findIn X.K (.ref C) "__bool__" = some none)
    (hf : PySem.W.isFn X.K (.ref f) = true) (he : PE X e te) (hg : Gl X "bool" := by rfl) (hs : starEach [e] X.env = (false, eval e X.env) :: starEach [] X.env := by rfl) (hp : (backTo pos (starEach [] X.env)).any (·.1) = false := by rfl) : PE X (.Call (.Name "bool" p) [e] [] pos) (fun σ H Q => te σ H fun x H1 => wBooI C sp (E σ) Q x H1) := by
  refine ⟨fun pins s σ H Q I h => ?_⟩
  refine wpAny_Call_Name_kw (ld_blt I hg hm bt_bool ?_)
  refine PyProof.Rows.callWith_type1 (thn ((pa_cons he pa_nil hs).run pos pins s σ H (one1 (wBooI C sp (E σ) Q)) I h) fun us s1 ⟨vs, H1, I1, r1, q1⟩ => ?_) hs hp
  obtain ⟨y, rfl, a, dx, fs, rfl, ha, q⟩ := one1_of q1
  obtain ⟨u, rfl, ru⟩ := vals1 r1
  obtain rfl : u = Value.ref a := ru
  refine callType_codes (T := "bool") (Bi := Builtin.«object.__init__») (Q₁ := fun r s₁ => ∃ b, r = .bool b ∧ EP X pins σ Q r s₁) PySem.F.called_bool (PySem.F.typeCall_bool_1 _) PySem.F.entry_object_init ?_ ?_
  · refine codeAny_of_tree ?_
    show wpAny _ X.A.in1.in1 (do checkBuiltinCall "bool.__new__" ⟨[.type "bool", .ref a], []⟩; again (.builtin "bool.__new__" ⟨[.type "bool", .ref a], []⟩)) _ _ s1
    refine wpAny_bind (wpAny_of_eq (PySem.F.newCall_bool_1 _) (wpAny_pure ⟨plainId_quiet (by decide +kernel) _, codeAny_builtin PySem.F.entry_bool_new ?_⟩))
    rw [Around.under_plainId (by decide +kernel) _]
    have f1 := PySem.F.conv_sub_bool
    have tr : ∀ {Q2 : Bool → Shared → Prop}, (∀ (n : Int) (H2 : Hp) s', Q (.bl (n != 0)) H2 → Inv X pins σ H2 s' → Q2 (n != 0) s') → wpAny (model X.prog X.w) X.A.in1.in1 (truthy (.ref a)) Q2 X.xe s1 := fun {Q2} h2 =>
      truthyI (R := fun n H2 => Q (.bl (n != 0)) H2) F (hr.mono (by omega) : Rm (k + 3) X.A).in1.in1 (fun s H z => z.in1.in1) hb (hx σ) hi hn hf I1 ha q h2
    obtain ⟨hp, g, d, tk, os⟩ := s1
    unfold Builtin.«bool.__new__»
    repeat (any_goals (first | assumption | (with_reducible refine tr ?_) | wp_step))
    intro n H2 s' q2 I2
    exact wpAny_pure ⟨_, rfl, .bl (n != 0), H2, I2, rfl, q2⟩
  · rintro obj s₁ ⟨y, rfl, hq⟩
    exact ⟨rfl, PySem.F.args_object_init_2 _ _, object_init_meets PySem.F.called_bool.init.lookup PySem.F.called_bool.made (by decide) X.prog X.w X.A.in1 _ s₁ ⟨rfl, rfl, hq⟩⟩
def wStrI (C : Addr) (sp : Sp) (E : XK) (Q : VK) (x : V) (H1 : Hp) : Prop := ∃ a dx fs, x = .ref a ∧ H1 a = some (.ins C dx fs) ∧ sp [x] H1 (fun y H2 => ∃ z, y = .str z ∧ Q (.str z) H2) E
theorem pe_strI (F : FnG X.prog X.w X.K X.mg X.base (L2.CX X.prog X.w) k f fd ps sp) (hr : Rm (k + 4) X.A) (hb : Binds X.K fd ps []) (hx : ∀ σ, PassesAt (L2.CX X.prog X.w) X σ (E σ)) (hm : X.mg "str" = none) (hi : PySem.W.findIn X.K (.ref C) "__str__" = some (some (.ref f)))
    (hf : PySem.W.isFn X.K (.ref f) = true) (he : PE X e te) (hg : Gl X "str" := by rfl) (hs : starEach [e] X.env = (false, eval e X.env) :: starEach [] X.env := by rfl) (hp : (backTo pos (starEach [] X.env)).any (·.1) = false := by rfl) : PE X (.Call (.Name "str" p) [e] [] pos) (fun σ H Q => te σ H fun x H1 => wStrI C sp (E σ) Q x H1) := by
  refine ⟨fun pins s σ H Q I h => ?_⟩
  refine wpAny_Call_Name_kw (ld_blt I hg hm bt_str ?_)
  refine PyProof.Rows.callWith_type1 (thn ((pa_cons he pa_nil hs).run pos pins s σ H (one1 (wStrI C sp (E σ) Q)) I h) fun us s1 ⟨vs, H1, I1, r1, q1⟩ => ?_) hs hp
  obtain ⟨y, rfl, a, dx, fs, rfl, ha, q⟩ := one1_of q1
  obtain ⟨u, rfl, ru⟩ := vals1 r1
  obtain rfl : u = Value.ref a := ru
  obtain ⟨ox, od, J⟩ := inst_of I1 ha
  refine PySem.W.kso_call (by have := hr.room.un; show X.A.units + 1 + 1 < _; omega) I1.kIn J hi hf (wpAny_mono (run_at F (hr.mono (by omega) : Rm (k + 2) X.A).in1.in1 (fun s H z => z.in1.in1) hb (hx σ) I1 q) (fun r s' hr => ?_) fun _ _ y => y)
  obtain ⟨v, H2, I2, rv, z, rfl, q2⟩ := hr
  obtain ⟨t, rfl⟩ := rv
  exact ⟨.str z, H2, I2, ⟨t, rfl⟩, q2⟩
end
/-- the truth by the length -/
def booB (r : R) (ρ : En) : Ou R := match r with
  | .v (.int n) => if 0 ≤ n ∧ n < 9223372036854775808 then .ok (.v (.bl (n != 0))) ρ else .st
  | _ => .st
section
variable {cl : Str → Option Addr} {X : Cx} {e : Expr} {eo : En → Ou R} {pos p : Pos} {c : Str} {k j : Nat} {m : Fm} {f C : Addr} {fd : FuncData} {ps : List Str}
theorem ee_booI (hcl : cl c = some C) (hi : PySem.W.findIn X.K (.ref C) "__len__" = some (some (.ref f))) (hf : PySem.W.isFn X.K (.ref f) = true) (hn : PySem.W.findIn X.K (.ref C) "__bool__" = some none) (G : CalF X.prog X.w X.K X.mg X.base cl k 1 m f fd ps) (hr : Rm j X.A) (hb : Binds X.K fd ps []) (hm : X.mg "bool" = none) (hO : EE cl X e eo) (hj : k + 4 ≤ j := by decide)
    (hg : Gl X "bool" := by rfl) (hs : starEach [e] X.env = (false, eval e X.env) :: starEach [] X.env := by rfl) (hp : (backTo pos (starEach [] X.env)).any (·.1) = false := by rfl) : EE cl X (.Call (.Name "bool" p) [e] [] pos) (xSpI c m booB eo) := fun W tk => by
  obtain ⟨t, pp, vv⟩ := hO W tk
  refine ⟨_, pe_booI (E := WE W) G.fn (hr.mono hj) hb (fun σ => passAt tk σ) hm hi hn hf pp hg hs hp, ev_spI (k := wBooI C (spM X.K cl 1 m)) (wish := fun Q y H2 => ∃ n : Int, y = .int n ∧ (0 ≤ n ∧ n < 2 ^ 63) ∧ Q (.bl (n != 0)) H2) hcl G.ok vv (fun E Q a dx gs H ha h => ⟨a, dx, gs, rfl, ha, h⟩) fun Q σ ρ0 ρ F0 H0 F H r x q S s rel => ?_⟩
  cases r with
  | v d => cases d with
    | int n =>
      cases (show Rep X.K cl F x (.int n) from rel)
      simp only [booB] at q
      split at q
      · rename_i hn
        exact ⟨n, rfl, ⟨hn.1, by omega⟩, q _ F H S s (.bl _)⟩
      · exact q.elim
    | _ => exact q.elim
  | _ => exact q.elim
theorem ee_strI (hcl : cl c = some C) (hi : PySem.W.findIn X.K (.ref C) "__str__" = some (some (.ref f))) (hf : PySem.W.isFn X.K (.ref f) = true) (G : CalF X.prog X.w X.K X.mg X.base cl k 1 m f fd ps) (hr : Rm j X.A) (hb : Binds X.K fd ps []) (hm : X.mg "str" = none) (hO : EE cl X e eo) (hj : k + 4 ≤ j := by decide)
    (hg : Gl X "str" := by rfl) (hs : starEach [e] X.env = (false, eval e X.env) :: starEach [] X.env := by rfl) (hp : (backTo pos (starEach [] X.env)).any (·.1) = false := by rfl) : EE cl X (.Call (.Name "str" p) [e] [] pos) (xSpI c m repB eo) := fun W tk => by
  obtain ⟨t, pp, vv⟩ := hO W tk
  refine ⟨_, pe_strI (E := WE W) G.fn (hr.mono hj) hb (fun σ => passAt tk σ) hm hi hf pp hg hs hp, ev_spI (k := wStrI C (spM X.K cl 1 m)) (wish := fun Q y H2 => ∃ z, y = .str z ∧ Q (.str z) H2) hcl G.ok vv (fun E Q a dx gs H ha h => ⟨a, dx, gs, rfl, ha, h⟩) fun Q σ ρ0 ρ F0 H0 F H r x q S s rel => ?_⟩
  cases r with
  | v d => cases d with
    | str z =>
      cases (show Rep X.K cl F x (.str z) from rel)
      exact ⟨z, rfl, q _ F H S s (.str z)⟩
    | _ => exact q.elim
  | _ => exact q.elim
end
@[simp] theorem booB_ap {n : Int} {ρ : En} : booB (.v (.int n)) ρ = if 0 ≤ n ∧ n < 9223372036854775808 then .ok (.v (.bl (n != 0))) ρ else .st := rfl
end Dm
end TxtDm39

section TxtDm40
set_option Elab.async false
set_option linter.all false
set_option maxRecDepth 100000
set_option maxHeartbeats 2000000
/-! Dm40: t <= u of tuples of numbers and texts. -/
namespace Dm
open PySem PySem.Spec PyProof.Rows L2

def samV : V → V → Bool
  | .int _, .int _ => true
  | .str _, .str _ => true
  | _, _ => false
def eqvV : V → V → Bool
  | .int i, .int j => decide (i = j)
  | .str a, .str b => decide (a = b)
  | _, _ => false
def levV : V → V → Bool
  | .int i, .int j => decide (i ≤ j)
  | .str a, .str b => !decide (b.cps.toList < a.cps.toList)
  | _, _ => false
def lexV : List V → List V → Bool
  | [], _ => true
  | _ :: _, [] => false
  | x :: xs, y :: ys => if eqvV x y = true then lexV xs ys else levV x y
theorem lexAt_V {e r : Nat → Bool} : ∀ (vs ws : List V) (i : Nat), (∀ j, j < vs.length → j < ws.length → e (i + j) = eqvV (vs.getD j .non) (ws.getD j .non) ∧ r (i + j) = levV (vs.getD j .non) (ws.getD j .non)) →
    Ob.lexAt e r (decide (vs.length ≤ ws.length)) i (min vs.length ws.length) = lexV vs ws
  | [], ws, i, h => by simp [Ob.lexAt_zero, lexV]
  | x :: xs, [], i, h => by simp [Ob.lexAt_zero, lexV]
  | x :: xs, y :: ys, i, h => by
    have h0 := h 0 (by simp) (by simp)
    have ih := lexAt_V (e := e) (r := r) xs ys (i + 1) fun j h1 h2 => by
      have := h (j + 1) (by simpa using h1) (by simpa using h2)
      rw [show i + 1 + j = i + (j + 1) by omega]
      simpa using this
    simp only [Nat.add_zero, List.getD_cons_zero] at h0
    rw [List.length_cons, List.length_cons, show min (xs.length + 1) (ys.length + 1) = min xs.length ys.length + 1 by omega, Ob.lexAt_succ, h0.1, h0.2]
    unfold lexV
    by_cases q : eqvV x y = true
    · rw [if_pos q, if_pos q, ← ih]
      congr 1
      simp
    · rw [if_neg q, if_neg q]
def rLeT2 (K : PySem.W.Frag) : R2 := fun x y H Q => ∃ (a b : Addr) (vs ws : List V), x = .ref a ∧ y = .ref b ∧ SqT K H a vs ∧ SqT K H b ws ∧ (∀ p ∈ vs.zip ws, samV p.1 p.2 = true) ∧ Q (.bl (lexV vs ws)) H
theorem zip_at {vs ws : List V} (h : ∀ p ∈ vs.zip ws, samV p.1 p.2 = true) {j : Nat} (h1 : j < vs.length) (h2 : j < ws.length) : samV (vs.getD j .non) (ws.getD j .non) = true := by
  have := h (vs[j], ws[j]) (List.mem_of_getElem? (i := j) (by rw [List.getElem?_eq_getElem (by simp; omega)]; simp))
  simpa [List.getD_eq_getElem?_getD, List.getElem?_eq_getElem h1, List.getElem?_eq_getElem h2] using this
theorem op_leTu {X : Cx} (hu : X.A.units < cLine) : OpR X (compareOp .LtE) (rLeT2 X.K) := by
  intro pins s σ H x y v u Q I rx ry h
  obtain ⟨a, b, vs, ws, rfl, rfl, ha, hb, hs, q⟩ := h
  cases rx
  cases ry
  obtain ⟨its, r1, p1, _⟩ := I.tuple ha
  obtain ⟨its2, r2, p2, _⟩ := I.tuple hb
  have e1 : its.toArray.size = vs.length := by rw [List.size_toArray]; exact r1.length.symm
  have e2 : its2.toArray.size = ws.length := by rw [List.size_toArray]; exact r2.length.symm
  have at1 : ∀ {vs : List V} {its : List Value} (r : Vals vs its) (j : Nat) (h : j < its.toArray.size), RelV (vs.getD j .non) (its.toArray[j]) := fun {vs its} r j h => by
    have hl : j < its.length := by simpa using h
    have hv : j < vs.length := by rw [r.length]; exact hl
    obtain ⟨u, e, rr⟩ := r.get (i := j) (x := vs[j]) (List.getElem?_eq_getElem hv)
    rw [List.getElem?_eq_getElem hl] at e
    cases e
    simpa [List.getD_eq_getElem?_getD, List.getElem?_eq_getElem hv] using rr
  have R := Ob.RcOp.tuples_le (A := X.A) (s := s) (e := fun j => eqvV (vs.getD j .non) (ws.getD j .non)) (r := fun j => levV (vs.getD j .non) (ws.getD j .non)) p1 p2 hu (fun j h1 h2 => by
    have k1 := at1 r1 j h1
    have k2 := at1 r2 j h2
    have kk := zip_at hs (j := j) (by rw [← e1]; exact h1) (by rw [← e2]; exact h2)
    generalize vs.getD j .non = p at k1 kk
    generalize ws.getD j .non = p' at k2 kk
    cases p with
    | int i => cases p' with
      | int i' =>
        obtain ⟨t, k1⟩ := k1
        obtain ⟨t', k2⟩ := k2
        rw [k1, k2]
        have z : eqvV (.int i) (.int i') = (i == i') := by
          show decide (i = i') = _
          by_cases q : i = i' <;> simp [q]
        rw [z]
        exact SeqAt.EqAt.int_int _ _ _ _
      | _ => cases kk
    | str i => cases p' with
      | str i' =>
        obtain ⟨t, k1⟩ := k1
        obtain ⟨t', k2⟩ := k2
        rw [k1, k2]
        have z : eqvV (.str i) (.str i') = (i == i') := by
          show decide (i = i') = _
          by_cases q : i = i' <;> simp [q]
        rw [z]
        exact SeqAt.EqAt.str_str _ _ _ _
      | _ => cases kk
    | _ => cases kk) (fun j h1 h2 _ => by
    have k1 := at1 r1 j h1
    have k2 := at1 r2 j h2
    have kk := zip_at hs (j := j) (by rw [← e1]; exact h1) (by rw [← e2]; exact h2)
    generalize vs.getD j .non = p at k1 kk
    generalize ws.getD j .non = p' at k2 kk
    cases p with
    | int i => cases p' with
      | int i' =>
        obtain ⟨t, k1⟩ := k1
        obtain ⟨t', k2⟩ := k2
        rw [k1, k2]
        exact Ob.RcOp.le_int _ _ _ _
      | _ => cases kk
    | str i => cases p' with
      | str i' =>
        obtain ⟨t, k1⟩ := k1
        obtain ⟨t', k2⟩ := k2
        rw [k1, k2]
        exact fun prog w E Q h => PySem.P.le_str (Q := Q) h
      | _ => cases kk
    | _ => cases kk)
  rw [e1, e2, lexAt_V vs ws 0 fun j h1 h2 => by rw [Nat.zero_add]; exact ⟨rfl, rfl⟩] at R
  have z : wpAny (model X.prog X.w) X.A (compareOp .LtE (.ref a) (.ref b)) (EP X pins σ Q) X.xe s := R X.prog X.w X.xe (EP X pins σ Q) ⟨.bl _, H, I, rfl, q⟩
  exact z
/-! the mirror -/
def samD : D → D → Bool
  | .int _, .int _ => true
  | .str _, .str _ => true
  | _, _ => false
def lexD : List D → List D → Bool
  | [], _ => true
  | _ :: _, [] => false
  | x :: xs, y :: ys => if eqvV (vOf x) (vOf y) = true then lexD xs ys else levV (vOf x) (vOf y)
def leTD : D → D → Option R
  | .tup ds, .tup es => if ds.all flatD && es.all flatD && (ds.zip es).all (fun p => samD p.1 p.2) then some (.v (.bl (lexD ds es))) else none
  | _, _ => none
theorem lexV_D : ∀ ds es : List D, lexV (ds.map vOf) (es.map vOf) = lexD ds es
  | [], es => by cases es <;> rfl
  | x :: xs, [] => rfl
  | x :: xs, y :: ys => by
    rw [List.map_cons, List.map_cons]
    unfold lexV lexD
    rw [lexV_D xs ys]
theorem rs_leT {K : PySem.W.Frag} {cl : Str → Option Addr} : RS2 K cl (rLeT2 K) leTD := by
  intro F H x y a b out s ha hb e Q q
  cases a with
  | tup ds => cases b with
    | tup es =>
      obtain ⟨_, p, vs, rfl, hp, _, r⟩ := ha
      obtain ⟨_, p', ws, rfl, hp', _, r'⟩ := hb
      simp only [leTD] at e
      split at e
      · rename_i hk
        cases e
        rw [Bool.and_eq_true, Bool.and_eq_true] at hk
        obtain ⟨⟨k1, k2⟩, k3⟩ := hk
        obtain ⟨rfl, _⟩ := r.flats k1
        obtain ⟨rfl, _⟩ := r'.flats k2
        refine ⟨p, p', _, _, rfl, rfl, hp, hp', fun z hz => ?_, ?_⟩
        · rw [List.zip_map, List.mem_map] at hz
          obtain ⟨⟨d1, d2⟩, hm, rfl⟩ := hz
          have := List.all_eq_true.mp k3 _ hm
          simp only [Prod.map_apply]
          cases d1 <;> cases d2 <;> first | rfl | cases this
        · rw [lexV_D]; exact q _ F H (Grow.refl s) (.bl _)
      · cases e
    | _ => cases e
  | _ => cases e
section
variable {cl : Str → Option Addr} {X : Cx} {a b : Expr} {ea eb : En → Ou R} {pos : Pos} {k : Nat}
theorem ee_leT (hr : Rm k X.A) (ha : EE cl X a ea) (hb : EE cl X b eb) : EE cl X (.Compare a [.LtE] [b] pos) (xBin leTD ea eb) := ee_cmpop (op_leTu (by have := hr.room.un; omega)) rs_leT ha hb
theorem et_leT (hr : Rm k X.A) (ha : EE cl X a ea) (hb : EE cl X b eb) : ET cl X (.Compare a [.LtE] [b] pos) (tB' (xBin leTD ea eb)) := et_cmpop (op_leTu (by have := hr.room.un; omega)) rs_leT ha hb
end
end Dm
end TxtDm40

section TxtDm41
set_option Elab.async false
set_option linter.all false
set_option maxRecDepth 100000
/-! Dm41: loops by the place of the item; dicts that grow. -/
namespace Dm
open PySem PySem.Spec PyProof.Rows

@[simp] theorem leTD_ap {ds es : List D} : leTD (.tup ds) (.tup es) = if ds.all flatD && es.all flatD && (ds.zip es).all (fun p => samD p.1 p.2) then some (.v (.bl (lexD ds es))) else none := rfl
theorem lexD_nil (es : List D) : lexD [] es = true := by cases es <;> rfl
theorem lexD_ii {i j : Int} {xs ys : List D} : lexD (.int i :: xs) (.int j :: ys) = if i = j then lexD xs ys else decide (i ≤ j) := by
  show (if decide (i = j) = true then _ else decide (i ≤ j)) = _
  by_cases h : i = j
  · rw [if_pos h, if_pos (decide_eq_true h)]
  · rw [if_neg h, if_neg (by simpa using h)]
theorem lexD_ss {i j : Str} {xs ys : List D} : lexD (.str i :: xs) (.str j :: ys) = if i = j then lexD xs ys else !decide (j.cps.toList < i.cps.toList) := by
  show (if decide (i = j) = true then _ else !decide (j.cps.toList < i.cps.toList)) = _
  by_cases h : i = j
  · rw [if_pos h, if_pos (decide_eq_true h)]
  · rw [if_neg h, if_neg (by simpa using h)]
/-- a loop over items, by what holds in front of the i-th -/
theorem for_ix {g : D → En → Ou Unit} {b : En → Ou Fl} (ds : List D) (I : Nat → En → Prop) (h : ∀ i d ρ, ds[i]? = some d → I i ρ → ∃ ρ', tnF g b d ρ = .ok .nx ρ' ∧ I (i + 1) ρ') {ρ : En} (h0 : I 0 ρ) : ∃ ρ', forL g b ds ρ = .ok .nx ρ' ∧ I ds.length ρ' := by
  obtain ⟨ρ', e1, i, h1, h2, h4⟩ := for_inv (g := g) (b := b) (fun rem ρ => ∃ i, i ≤ ds.length ∧ rem = ds.drop i ∧ I i ρ) (fun d rem ρ ⟨i, hi, e1, e3⟩ => by
    have hlt : i < ds.length := by
      by_cases z : i < ds.length
      · exact z
      · rw [List.drop_eq_nil_of_le (by omega)] at e1; cases e1
    rw [List.drop_eq_getElem_cons hlt] at e1
    obtain ⟨rfl, rfl⟩ := List.cons.inj e1
    obtain ⟨ρ', a, dd⟩ := h i _ ρ (List.getElem?_eq_getElem hlt) e3
    exact ⟨ρ', a, i + 1, hlt, rfl, dd⟩) (ds := ds) ⟨0, Nat.zero_le _, rfl, h0⟩
  have hn : i = ds.length := by
    by_cases z : i < ds.length
    · rw [List.drop_eq_getElem_cons z] at h2; cases h2
    · omega
  subst hn
  exact ⟨ρ', e1, h4⟩
theorem enumD_len (ds : List D) : (enumD ds).length = ds.length := by
  unfold enumD; simp
theorem for_enum {g : D → En → Ou Unit} {b : En → Ou Fl} (ds : List D) (I : Nat → En → Prop) (h : ∀ i d ρ, ds[i]? = some d → I i ρ → ∃ ρ', tnF g b (.tup [.int (i : Nat), d]) ρ = .ok .nx ρ' ∧ I (i + 1) ρ') {ρ : En} (h0 : I 0 ρ) : ∃ ρ', forL g b (enumD ds) ρ = .ok .nx ρ' ∧ I ds.length ρ' := by
  have := for_ix (g := g) (b := b) (enumD ds) I (fun i d ρ hd hi => by
    obtain ⟨d', h1, rfl⟩ := enumD_get hd
    exact h i d' ρ h1 hi) h0
  rwa [enumD_len] at this
/-- a comprehension over items, by what holds in front of the i-th -/
theorem lc_ix {g : D → En → Ou Unit} {t : En → Ou Bool} {e : En → Ou R} {vs : List Nat} (ds : List D) (I : Nat → List D → En → Prop) (hz : ds.length ≤ 16777216)
    (h : ∀ i d acc ρ, ds[i]? = some d → acc.length ≤ i → I i acc ρ → ∃ o ρ', tnL g t e vs d ρ = .ok o ρ' ∧ I (i + 1) (acc ++ o.toList) ρ') {ρ : En} (h0 : I 0 [] ρ) : ∃ out ρ', lcL g t e vs ds [] ρ = .ok out ρ' ∧ I ds.length out ρ' := by
  obtain ⟨out, ρ', e1, i, h1, h2, h3, h4⟩ := lc_inv (g := g) (t := t) (e := e) (vs := vs) (fun rem acc ρ => ∃ i, i ≤ ds.length ∧ rem = ds.drop i ∧ acc.length ≤ i ∧ I i acc ρ) (fun d rem acc ρ ⟨i, hi, e1, e2, e3⟩ => by
    have hlt : i < ds.length := by
      by_cases z : i < ds.length
      · exact z
      · rw [List.drop_eq_nil_of_le (by omega)] at e1; cases e1
    rw [List.drop_eq_getElem_cons hlt] at e1
    obtain ⟨rfl, rfl⟩ := List.cons.inj e1
    obtain ⟨o, ρ', a, dd⟩ := h i _ acc ρ (List.getElem?_eq_getElem hlt) e2 e3
    refine ⟨o, ρ', a, by omega, i + 1, hlt, rfl, ?_, dd⟩
    rw [List.length_append]
    cases o <;> simp <;> omega) (ds := ds) ⟨0, Nat.zero_le _, rfl, Nat.le_refl _, h0⟩
  have hn : i = ds.length := by
    by_cases z : i < ds.length
    · rw [List.drop_eq_getElem_cons z] at h2; cases h2
    · omega
  subst hn
  exact ⟨out, ρ', e1, h4⟩
/-! ### dicts that grow -/
theorem putD_new {κ : Type} [DecidableEq κ] {es : List (κ × D)} {k : κ} {d : D} (h : ∀ p ∈ es, p.1 ≠ k) : putD es k d = es ++ [(k, d)] := by
  unfold putD
  rw [if_neg]
  intro z
  obtain ⟨p, hp, hk⟩ := List.any_eq_true.mp z
  exact h p hp (of_decide_eq_true hk)
theorem valD_none {κ : Type} [DecidableEq κ] {es : List (κ × D)} {k : κ} (h : ∀ p ∈ es, p.1 ≠ k) : valD es k = none := by
  unfold valD
  rw [List.find?_eq_none.mpr fun p hp => by simpa using h p hp]
  rfl
theorem valD_app {κ : Type} [DecidableEq κ] {es fs : List (κ × D)} {k : κ} : valD (es ++ fs) k = (valD es k).or (valD fs k) := by
  unfold valD
  rw [List.find?_append]
  cases List.find? (fun kv => decide (kv.1 = k)) es <;> rfl
theorem valD_cons {κ : Type} [DecidableEq κ] {p : κ × D} {es : List (κ × D)} {k : κ} : valD (p :: es) k = if p.1 = k then some p.2 else valD es k := by
  unfold valD
  rw [List.find?_cons]
  by_cases h : p.1 = k <;> simp [h]
@[simp] theorem valD_nil {κ : Type} [DecidableEq κ] {k : κ} : valD ([] : List (κ × D)) k = none := rfl
theorem valD_some_mem {κ : Type} [DecidableEq κ] {es : List (κ × D)} {k : κ} {d : D} (h : valD es k = some d) : (k, d) ∈ es := by
  unfold valD at h
  obtain ⟨p, hp, rfl⟩ := Option.map_eq_some_iff.mp h
  have h1 := List.mem_of_find?_eq_some hp
  have h2 := List.find?_some hp
  have : p.1 = k := by simpa using h2
  rw [← this]
  exact h1
theorem valD_none_iff {κ : Type} [DecidableEq κ] {es : List (κ × D)} {k : κ} : valD es k = none ↔ ∀ p ∈ es, p.1 ≠ k := by
  constructor
  · intro h p hp e
    unfold valD at h
    have := List.find?_eq_none.mp (Option.map_eq_none_iff.mp h) p hp
    simp [e] at this
  · exact valD_none
/-! ### keys (number, text) -/
def ek (h : Nat) (w : Str) : List L2.Key := [.inl (h : Int), .inr w]
theorem ek_inj {h h' : Nat} {w w' : Str} (e : ek h w = ek h' w') : h = h' ∧ w = w' := by
  unfold ek at e
  simp only [List.cons.injEq, Sum.inl.injEq, Sum.inr.injEq, and_true] at e
  exact ⟨by omega, e.2⟩
section
variable {es : List (List L2.Key × D)} {h : Nat} {w : Str} {d : D} {neg : Bool}
theorem dget_ek : dgetD (.dT es) (.tup [.int (h : Int), .str w]) = some (valD es (ek h w)) := rfl
theorem in_ek : inAD neg (.tup [.int (h : Int), .str w]) (.dT es) = some (.v (.bl (if neg then !(valD es (ek h w)).isSome else (valD es (ek h w)).isSome))) := by
  unfold inAD oE inD dinD
  rw [dget_ek]
theorem put_ek : putC (.dT es) (.tup [.int (h : Int), .str w]) d = if es.length < 16777216 then some (.dT (putD es (ek h w) d)) else none := by
  show (if es.length < sizeLine then some (C.dT (putD es (ek h w) d)) else none) = _
  rw [sizeLine_num]
theorem item_ek : itemD (.dT es) (.tup [.int (h : Int), .str w]) = (valD es (ek h w)).map .v := by
  unfold itemD oE ixD dixD
  rw [dget_ek]
  cases valD es (ek h w) <;> rfl
end
/-- a while loop, by what holds in front of its k-th turn; at most M turns -/
theorem whl_inv {t : En → Ou Bool} {b : En → Ou Fl} (I : Nat → En → Prop) (M : Nat) (h : ∀ k ρ, I k ρ → k ≤ M ∧ (t ρ = .ok false ρ ∨ (t ρ = .ok true ρ ∧ ∃ ρ', b ρ = .ok .nx ρ' ∧ I (k + 1) ρ'))) :
    ∀ (N k : Nat) (ρ : En), M < N + k → I k ρ → ∃ k' ρ', whl t b N ρ = .ok .nx ρ' ∧ I k' ρ' ∧ t ρ' = .ok false ρ'
  | 0, k, ρ, hN, hI => by
    have := (h k ρ hI).1
    omega
  | N + 1, k, ρ, hN, hI => by
    rcases (h k ρ hI).2 with e | ⟨e, ρ', e2, hI'⟩
    · exact ⟨k, ρ, whl_F e, hI, e⟩
    · obtain ⟨k', ρ2, a, b, c⟩ := whl_inv I M h N (k + 1) ρ' (by omega) hI'
      exact ⟨k', ρ2, (whl_T e e2).trans a, b, c⟩
theorem isort_id {α : Type} {le : α → α → Bool} : ∀ {l : List α}, l.Pairwise (fun a b => le a b = true) → isort le l = l
  | [], _ => rfl
  | a :: l, h => by
    obtain ⟨h1, h2⟩ := List.pairwise_cons.mp h
    show insS le a (isort le l) = a :: l
    rw [isort_id h2]
    cases l with
    | nil => rfl
    | cons b l =>
      unfold insS
      rw [if_pos (h1 b List.mem_cons_self)]
end Dm
end TxtDm41

section TxtDm42
set_option Elab.async false
set_option linter.all false
set_option maxRecDepth 100000
set_option maxHeartbeats 2000000
/-! Dm42: walks over a dict's keys (the dict in a slot; it is locked meanwhile). -/
namespace Dm
open PySem PySem.Spec PyProof.Rows L2

def dkeys : D → Option (List D)
  | .dK es => some (es.map fun p => kD p.1)
  | .dT es => some (es.map fun p => .tup (p.1.map kD))
  | _ => none
def iKeyV (i : Nat) : En → Ou (List D) := fun ρ => match ρ[i]? with
  | some (some (.v d)) => (match dkeys d with
    | some ds => .ok ds ρ
    | none => .st)
  | _ => .st
def frzS (i : Nat) (ρ : En) : En := match ρ[i]? with
  | some (some c) => if c.own then ρ.set i (some (.v c.toD)) else ρ
  | _ => ρ
def xLcK (i : Nat) (gx : D → En → Ou Unit) (tx : En → Ou Bool) (ex : En → Ou R) (vs : List Nat) : En → Ou R := fun ρ => xLc (iKeyV i) gx tx ex vs (frzS i ρ)
def sForK (i : Nat) (gx : D → En → Ou Unit) (b : En → Ou Fl) : En → Ou Fl := fun ρ => noEr (sFor (iKeyV i) gx b (frzS i ρ))
section
variable {K : PySem.W.Frag} {cl : Str → Option Addr} {F F' F1 H H' H1 : Hp} {σ σ' : L2.St} {ρ ρ' : En} {pn : Nat → Bool} {W : WX}
theorem itOk_keysK {d : Addr} {o : Obj} {kvs : List (Key × V)} {es : List (Key × D)} (hF : F d = some (.dK kvs)) (hr : kvs.map (·.1) = es.map (·.1)) (hH : H d = some (.frz o (.dK kvs))) :
    ItOk K cl (Itk d o kvs) F H (es.map fun p => kD p.1) := by
  have hl : es.length = kvs.length := by have := congrArg List.length hr; simpa using this.symm
  have st : ∀ {H2 : Hp}, (∀ a o, F a ≠ none → H a = some o → H2 a = some o) → H2 d = some (.frz o (.dK kvs)) := fun h => h _ _ (by rw [hF]; exact fun z => nomatch z) hH
  refine ⟨fun F1 H1 i x m s sb e => ?_, fun F1 H1 m s sb => ⟨st s, by rw [List.length_map, hl]; exact Nat.le_refl _⟩⟩
  rw [List.getElem?_map] at e
  obtain ⟨p, hp, rfl⟩ := Option.map_eq_some_iff.mp e
  refine ⟨⟨st s, by rw [← hl]; exact (List.getElem?_eq_some_iff.mp hp).1⟩, fun x H' y => ?_⟩
  obtain ⟨rfl, k, v, hk, rfl⟩ := y
  have e2 := congrArg (fun l => l[i]?) hr
  simp only [List.getElem?_map, hk, hp, Option.map_some, Option.some.injEq] at e2
  rw [← e2]
  exact ⟨F1, Grow.refl sb, kD_rep _⟩
theorem itOk_keysT {d : Addr} {o : Obj} {kvs : List (List Key × V)} {es : List (List Key × D)} (hF : F d = some (.dT kvs)) (hr : kvs.map (·.1) = es.map (·.1)) (hH : H d = some (.frz o (.dT kvs))) :
    ItOk K cl (Itkt d o kvs) F H (es.map fun p => .tup (p.1.map kD)) := by
  have hl : es.length = kvs.length := by have := congrArg List.length hr; simpa using this.symm
  have st : ∀ {H2 : Hp}, (∀ a o, F a ≠ none → H a = some o → H2 a = some o) → H2 d = some (.frz o (.dT kvs)) := fun h => h _ _ (by rw [hF]; exact fun z => nomatch z) hH
  refine ⟨fun F1 H1 i x m s sb e => ?_, fun F1 H1 m s sb => ⟨st s, by rw [List.length_map, hl]; exact Nat.le_refl _⟩⟩
  rw [List.getElem?_map] at e
  obtain ⟨p, hp, rfl⟩ := Option.map_eq_some_iff.mp e
  refine ⟨⟨st s, by rw [← hl]; exact (List.getElem?_eq_some_iff.mp hp).1⟩, fun x H' y => ?_⟩
  obtain ⟨rfl, k, v, q, hk, rfl, hq⟩ := y
  have e2 := congrArg (fun l => l[i]?) hr
  simp only [List.getElem?_map, hk, hp, Option.map_some, Option.some.injEq] at e2
  rw [← e2]
  have fin : ∀ F2 : Hp, F2 q = some (.tup (k.map kV)) → Rep K cl F2 (.ref q) (.tup (k.map kD)) := fun F2 h => .tup (.inl (.inl h)) (.inr h) (by simp) (kD_repL k).2
  cases eq : F1 q with
  | some u =>
    rcases sb q u eq with z | ⟨_, ob, z⟩
    · rw [hq] at z; cases z
      exact ⟨F1, Grow.refl sb, fin F1 eq⟩
    · rw [hq] at z; cases z
  | none =>
    refine ⟨upd F1 q (.tup (k.map kV)), ⟨mono_upd eq, fun a u h => ?_, fun _ _ h => h, fun p u h hn => ?_⟩, fin _ upd_same⟩
    · by_cases ha : a = q
      · subst ha
        rw [upd_same] at h; cases h
        exact .inl hq
      · rw [upd_ne ha] at h; exact sb a u h
    · by_cases ha : p = q
      · subst ha
        rw [hq] at h; cases h
        exact .inr (.tup _)
      · rw [upd_ne ha]; exact .inl hn
def Lk (i : Nat) (σ : L2.St) (H : Hp) : Prop := ∃ d o, σ[i]? = some (some (.ref d)) ∧ ((∃ kvs, H d = some (.frz o (.dK kvs))) ∨ ∃ kvs, H d = some (.frz o (.dT kvs)))
theorem ev_ikey {i : Nat} : EvI K cl W (fun σ H R => Lk i σ H → iKeys (tVar i) σ H R) (iKeyV i) := by
  intro F σ H ρ R S q lk
  obtain ⟨dd, o, hd, lk⟩ := lk
  unfold iKeyV at q
  cases e : ρ[i]? with
  | none => rw [e] at q; exact q.elim
  | some oc =>
    cases oc with
    | none => rw [e] at q; exact q.elim
    | some c =>
      rw [e] at q
      cases c with
      | v d =>
        obtain ⟨x, e1, r⟩ := S.val i d e
        rw [hd] at e1; cases e1
        show tVar i σ H _
        refine ⟨_, hd, ?_⟩
        cases d with
        | dK es =>
          cases r with
          | @dK a kvs es h l r =>
            rcases lk with ⟨kvs', lk⟩ | ⟨kvs', lk⟩
            · rcases S.sub _ _ h with z | ⟨_, ob, z⟩
              · rw [lk] at z; cases z
              · rw [lk] at z; cases z
                exact ⟨_, _, rfl, .inl ⟨_, lk, q _ F H S Stp.refl (itOk_keysK h l lk)⟩⟩
            · rcases S.sub _ _ h with z | ⟨_, ob, z⟩ <;> (rw [lk] at z; cases z)
        | dT es =>
          cases r with
          | @dT a kvs es h l r =>
            rcases lk with ⟨kvs', lk⟩ | ⟨kvs', lk⟩
            · rcases S.sub _ _ h with z | ⟨_, ob, z⟩ <;> (rw [lk] at z; cases z)
            · rcases S.sub _ _ h with z | ⟨_, ob, z⟩
              · rw [lk] at z; cases z
              · rw [lk] at z; cases z
                exact ⟨_, _, rfl, .inr ⟨_, lk, q _ F H S Stp.refl (itOk_keysT h l lk)⟩⟩
        | _ => exact q.elim
      | _ => exact q.elim
/-- locking a frozen dict -/
theorem Sta.lock {d : Addr} {u : HO} {ob : Obj} (S : Sta K cl F σ H ρ) (hF : F d = some u) (hu : isDic u) : Sta K cl F σ (upd H d (.frz ob u)) ρ := by
  refine ⟨fun a o e => ?_, S.len, S.val, fun i c h hc => ?_, S.sep⟩
  · by_cases ha : a = d
    · subst ha
      rw [hF] at e; cases e
      exact .inr ⟨hu, ob, upd_same⟩
    · rw [upd_ne ha]; exact S.sub a o e
  · obtain ⟨p, o, e1, e2, e3, e4⟩ := S.own i c h hc
    have : p ≠ d := fun z => by rw [z, hF] at e2; cases e2
    exact ⟨p, o, e1, e2, by rw [upd_ne this]; exact e3, e4⟩
theorem Sta.unlock {d : Addr} {u : HO} (S : Sta K cl F σ H ρ) (hF : F d = some u) : Sta K cl F σ (upd H d u) ρ := by
  refine ⟨fun a o e => ?_, S.len, S.val, fun i c h hc => ?_, S.sep⟩
  · by_cases ha : a = d
    · subst ha
      rw [hF] at e; cases e
      exact .inl upd_same
    · rw [upd_ne ha]; exact S.sub a o e
  · obtain ⟨p, o, e1, e2, e3, e4⟩ := S.own i c h hc
    have : p ≠ d := fun z => by rw [z, hF] at e2; cases e2
    exact ⟨p, o, e1, e2, by rw [upd_ne this]; exact e3, e4⟩
theorem Sta.nown {d : Addr} {u : HO} (S : Sta K cl F σ H ρ) (hF : F d = some u) : ¬ OwnS σ ρ d := fun ⟨i, c, h1, h2, h3⟩ => by
  obtain ⟨p, o, e1, e2, _⟩ := S.own i c h1 h2
  rw [h3] at e1; cases e1
  rw [hF] at e2; cases e2
theorem Stp.unlock {d : Addr} {u : HO} {ob : Obj} (S : Sta K cl F σ H ρ) (hF : F d = some u) (hH : H d = some u) (st : Stp pn σ ρ F (upd H d (.frz ob u)) σ' ρ' F' H') : Stp pn σ ρ F H σ' ρ' F' (upd H' d u) := by
  have hF' := st.mono _ _ hF
  refine ⟨st.mono, fun p o h n => ?_, fun p o h n hn => ?_, fun p h => ?_, st.pin, fun p o h => ?_, st.len⟩
  · by_cases hp : p = d
    · subst hp; rw [hH] at h; cases h; exact upd_same
    · rw [upd_ne hp]; exact st.keep p o (by rw [upd_ne hp]; exact h) n
  · have hp : p ≠ d := fun z => by rw [z, hF] at hn; cases hn
    exact st.free p o (by rw [upd_ne hp]; exact h) n hn
  · rcases st.own p h with z | z
    · exact .inl z
    · by_cases hp : p = d
      · subst hp; rw [upd_same] at z; cases z
      · rw [upd_ne hp] at z; exact .inr z
  · by_cases hp : p = d
    · subst hp; exact ⟨u, upd_same⟩
    · obtain ⟨o', e⟩ := st.thr p o (by rw [upd_ne hp]; exact h)
      exact ⟨o', by rw [upd_ne hp]; exact e⟩
theorem RelR.unlock {d : Addr} {u : HO} {ob : Obj} {x : V} {r : R} (hF' : F' d = some u) (h : RelR K cl σ ρ (upd H d (.frz ob u)) σ' ρ' F' H' x r) : RelR K cl σ ρ H σ' ρ' F' (upd H' d u) x r := by
  cases r with
  | v d => exact h
  | s i => exact h
  | o c =>
    obtain ⟨p, o, e, ho, hf, hh, ha, hn, hs⟩ := h
    have hp : p ≠ d := fun z => by rw [z, hF'] at hf; cases hf
    refine ⟨p, o, e, ho, hf, by rw [upd_ne hp]; exact hh, ha, hn, hs.imp id fun z => ?_⟩
    rwa [upd_ne hp] at z
theorem frzS_ok {i : Nat} (S : Sta K cl F σ H ρ) : ∃ F', Sta K cl F' σ H (frzS i ρ) ∧ Stp pn σ ρ F H σ (frzS i ρ) F' H := by
  unfold frzS
  cases e : ρ[i]? with
  | none => exact ⟨F, S, Stp.refl⟩
  | some oc =>
    cases oc with
    | none => exact ⟨F, S, Stp.refl⟩
    | some c =>
      by_cases hc : c.own = true
      · obtain ⟨p, o, e1, e2, e3, e4⟩ := S.own i c e hc
        simp only [if_pos hc]
        exact ⟨upd F p o, freeze_slot S e hc e1 e2 e3 e4, stp_freeze_slot e hc e1 e2⟩
      · simp only [if_neg hc]
        exact ⟨F, S, Stp.refl⟩
/-- the dict in slot i, where its keys are walked -/
theorem iKeyV_dic {i : Nat} {items : List D} (S : Sta K cl F σ H ρ) (e : iKeyV i ρ = .ok items ρ') : ∃ d u, σ[i]? = some (some (.ref d)) ∧ F d = some u ∧ isDic u ∧ ((∃ kvs, u = .dK kvs) ∨ ∃ kvs, u = .dT kvs) := by
  unfold iKeyV at e
  cases e0 : ρ[i]? with
  | none => rw [e0] at e; cases e
  | some oc =>
    cases oc with
    | none => rw [e0] at e; cases e
    | some c =>
      cases c with
      | v d =>
        obtain ⟨x, e1, r⟩ := S.val i d e0
        cases r with
        | @dK a kvs es h l r => exact ⟨a, _, e1, h, trivial, .inl ⟨_, rfl⟩⟩
        | @dT a kvs es h l r => exact ⟨a, _, e1, h, trivial, .inr ⟨_, rfl⟩⟩
        | _ => rw [e0] at e; cases e
      | _ => rw [e0] at e; cases e
theorem mut_dic {u : HO} (h : isDic u) : Mut (some u) := by
  cases u <;> first | exact trivial | exact h.elim
theorem ev_lcK {i : Nat} {g : TG} {tt : TT} {te : TE} {vs : List Nat} {gx : D → En → Ou Unit} {tx : En → Ou Bool} {ex : En → Ou R} (hg : EvG K cl (pnB vs) W0 g gx) (ht : EvT K cl W0 tt tx) (he : EvE K cl W0 te ex) :
    EvE K cl W (fun σ H Q => tLockE (tLc (iKeys (tVar i)) g tt te vs) σ H Q ∨ tLc (iKeys (tVar i)) g tt te vs σ H Q) (xLcK i gx tx ex vs) := by
  intro F σ H ρ Q S q
  unfold xLcK at q
  obtain ⟨F0, S0, s0⟩ := frzS_ok (pn := fun _ => true) (i := i) S
  have q := PstE.from s0 q
  generalize frzS i ρ = ρ0 at *
  have base := ev_lc (W := W) (ev_ikey (K := K) (cl := cl) (W := W) (i := i)) hg ht he
  have noer : ∀ y ρ', xLc (iKeyV i) gx tx ex vs ρ0 ≠ .er y ρ' := fun y ρ' h => by
    unfold xLc at h
    cases e : iKeyV i ρ0 with
    | st => rw [e] at h; cases h
    | er z ρ2 =>
      unfold iKeyV at e
      split at e
      · split at e <;> cases e
      · cases e
    | ok items ρ1 =>
      rw [e, Ou.bn_ok] at h
      cases e2 : lcL gx tx ex vs items [] (wipE ρ1 vs) <;> (rw [e2] at h; cases h)
  cases e : iKeyV i ρ0 with
  | st => unfold xLc at q; rw [e] at q; exact q.elim
  | er z ρ2 => 
    unfold iKeyV at e
    split at e
    · split at e <;> cases e
    · cases e
  | ok items ρ1 =>
    obtain ⟨d, u, hd, hF, hu, hk⟩ := iKeyV_dic S0 e
    have lk : ∀ (H2 : Hp) (ob : Obj), H2 d = some (.frz ob u) → Lk i σ H2 := fun H2 ob h => by
      rcases hk with ⟨kvs, rfl⟩ | ⟨kvs, rfl⟩
      · exact ⟨d, ob, hd, .inl ⟨kvs, h⟩⟩
      · exact ⟨d, ob, hd, .inr ⟨kvs, h⟩⟩
    rcases S0.sub _ _ hF with hH | ⟨_, ob, hH⟩
    · refine .inl ⟨d, u, hH, mut_dic hu, fun od => ?_⟩
      refine base F0 σ _ ρ0 (fun v H' => H' d = some (.frz od u) ∧ Q v (upd H' d u)) (S0.lock hF hu) ?_ (lk _ od upd_same)
      cases e5 : xLc (iKeyV i) gx tx ex vs ρ0 with
      | st => rw [e5] at q; exact q
      | er y ρ' => exact (noer y ρ' e5).elim
      | ok r ρ' =>
        rw [e5] at q
        intro x F' H' S' s' rel
        refine ⟨s'.keep d _ upd_same (S0.nown hF), ?_⟩
        have hF' := s'.mono _ _ hF
        exact q x F' _ (S'.unlock hF') (Stp.unlock S0 hF hH s') (RelR.unlock hF' rel)
    · exact .inr (base F0 σ H ρ0 Q S0 q (lk H ob hH))
theorem ev_forK {i : Nat} {g : TG} {tb : TS} {gx : D → En → Ou Unit} {b : En → Ou Fl} (hg : EvG K cl pn W g gx) (hb : EvS K cl pn W tb b) :
    EvS K cl pn W (fun D σ H => tLock (tFor (iKeys (tVar i)) g tb) D σ H ∨ tFor (iKeys (tVar i)) g tb D σ H) (sForK i gx b) := by
  intro F σ H ρ D S q
  unfold sForK at q
  obtain ⟨F0, S0, s0⟩ := frzS_ok (pn := pn) (i := i) S
  have q := PstS.from s0 q
  generalize frzS i ρ = ρ0 at *
  have base := ev_for (pn := pn) (ev_ikey (K := K) (cl := cl) (W := W) (i := i)) hg hb
  cases e : iKeyV i ρ0 with
  | st => unfold sFor at q; rw [e] at q; exact q.elim
  | er z ρ2 => unfold sFor at q; rw [e] at q; exact q.elim
  | ok items ρ1 =>
    obtain ⟨d, u, hd, hF, hu, hk⟩ := iKeyV_dic S0 e
    have lk : ∀ (H2 : Hp) (ob : Obj), H2 d = some (.frz ob u) → Lk i σ H2 := fun H2 ob h => by
      rcases hk with ⟨kvs, rfl⟩ | ⟨kvs, rfl⟩
      · exact ⟨d, ob, hd, .inl ⟨kvs, h⟩⟩
      · exact ⟨d, ob, hd, .inr ⟨kvs, h⟩⟩
    rcases S0.sub _ _ hF with hH | ⟨_, ob, hH⟩
    · refine .inl ⟨d, u, hH, mut_dic hu, fun od => ?_⟩
      refine base F0 σ _ ρ0 ⟨fun σ' H' => H' d = some (.frz od u) ∧ D.nx σ' (upd H' d u), fun v H' => H' d = some (.frz od u) ∧ D.rt v (upd H' d u), fun σ' H' => H' d = some (.frz od u) ∧ D.bk σ' (upd H' d u), fun σ' H' => H' d = some (.frz od u) ∧ D.ct σ' (upd H' d u)⟩ (S0.lock hF hu) ?_ (lk _ od upd_same)
      cases e5 : sFor (iKeyV i) gx b ρ0 with
      | st => rw [e5] at q; exact q
      | er y ρ' => rw [e5] at q; exact q.elim
      | ok f ρ' =>
        rw [e5] at q
        cases f with
        | nx => exact fun σ' F' H' S' s' => ⟨s'.keep d _ upd_same (S0.nown hF), q σ' F' _ (S'.unlock (s'.mono _ _ hF)) (Stp.unlock S0 hF hH s')⟩
        | bk => exact fun σ' F' H' S' s' => ⟨s'.keep d _ upd_same (S0.nown hF), q σ' F' _ (S'.unlock (s'.mono _ _ hF)) (Stp.unlock S0 hF hH s')⟩
        | ct => exact fun σ' F' H' S' s' => ⟨s'.keep d _ upd_same (S0.nown hF), q σ' F' _ (S'.unlock (s'.mono _ _ hF)) (Stp.unlock S0 hF hH s')⟩
        | rt r => exact fun x σ' F' H' S' s' rel => ⟨s'.keep d _ upd_same (S0.nown hF), q x σ' F' _ (S'.unlock (s'.mono _ _ hF)) (Stp.unlock S0 hF hH s') (RelR.unlock (s'.mono _ _ hF) rel)⟩
    · refine .inr (base F0 σ H ρ0 D S0 ?_ (lk H ob hH))
      cases e5 : sFor (iKeyV i) gx b ρ0 with
      | st => rw [e5] at q; exact q
      | er y ρ' => rw [e5] at q; exact q.elim
      | ok f ρ' => rw [e5] at q; exact q
end
theorem PS.or {X : Cx} {e : Stmt} {t t' : TS} (h : PS X e t) (h' : PS X e t') : PS X e (fun D σ H => t D σ H ∨ t' D σ H) :=
  ⟨fun pins s σ H Q I q => q.elim (fun q => h.run pins s σ H Q I q) fun q => h'.run pins s σ H Q I q⟩
section
variable {cl : Str → Option Addr} {pn : Nat → Bool} {X : Cx} {tg : Expr} {ex : En → Ou R} {pos npos : Pos} {gx : D → En → Ou Unit}
theorem ee_lcK {x : Str} {elt : Expr} {ifs : List Expr} {scope : Scope} (i : Nat) (own : List (Str × Nat)) {tx : En → Ou Bool} (hc : X.calm = true) (hN : X.N.Nodup) (ok : BlkOk X.N X.env.scope scope own)
    (hg : ∀ (s : Shared) (H : Hp) (C : Addr) (cls : List (Str × Addr)) (fp : List Addr), EG cl (pnB (own.map (·.2))) (X.blk s H scope (compEnvC scope cls C X.env) fp) tg gx)
    (ht : ∀ (s : Shared) (H : Hp) (C : Addr) (cls : List (Str × Addr)) (fp : List Addr), ETs cl (X.blk s H scope (compEnvC scope cls C X.env) fp) ifs tx)
    (he : ∀ (s : Shared) (H : Hp) (C : Addr) (cls : List (Str × Addr)) (fp : List Addr), EE cl (X.blk s H scope (compEnvC scope cls C X.env) fp) elt ex)
    (hx : X.N[i]? = some x := by rfl) (hv : Vis X.env.scope x := by first | exact Or.inl rfl | exact Or.inr (Or.inl rfl) | exact Or.inr (Or.inr rfl)) (hd : (x == ("__debug__" : Str)) = false := by decide) (hcd : (x == ("__classdict__" : Str)) = false := by decide)
    (hs : ∀ y, foldedSetIterable (.Name x npos) X.env y = pure y := by intro _; rfl) :
    EE cl X (.ListComp elt [⟨tg, .Name x npos, ifs, 0⟩] scope pos) (xLcK i gx tx ex (own.map (·.2))) := fun W tk => by
  have hg' := fun (b : Shared × Hp × Addr × List (Str × Addr) × List Addr) => hg b.1 b.2.1 b.2.2.1 b.2.2.2.1 b.2.2.2.2 W0 takes0
  have ht' := fun (b : Shared × Hp × Addr × List (Str × Addr) × List Addr) => ht b.1 b.2.1 b.2.2.1 b.2.2.2.1 b.2.2.2.2 W0 takes0
  have he' := fun (b : Shared × Hp × Addr × List (Str × Addr) × List Addr) => he b.1 b.2.1 b.2.2.1 b.2.2.2.1 b.2.2.2.2 W0 takes0
  obtain ⟨gf, hgf⟩ := Classical.axiomOfChoice hg'
  obtain ⟨tf, htf⟩ := Classical.axiomOfChoice ht'
  obtain ⟨ef, hef⟩ := Classical.axiomOfChoice he'
  have p := pe_lc (g := fun x σ H Q => ∀ b, gf b x σ H Q) (tt := fun σ H Q => ∀ b, tf b σ H Q) (te := fun σ H Q => ∀ b, ef b σ H Q) (pos := pos) hc hN (pi_keys (tg := tg) (pe_var (pos := npos) hx hv hd hcd)) ok
    (fun s H C cls fp => ⟨fun pins s' σ H' v u Q I r h => (hgf (s, H, C, cls, fp)).1.run pins s' σ H' v u Q I r (h _)⟩)
    (fun s H C cls fp => ⟨fun pins s' σ H' Q I h => (htf (s, H, C, cls, fp)).1.run pins s' σ H' Q I (h _)⟩)
    (fun s H C cls fp => ⟨fun pins s' σ H' Q I h => (hef (s, H, C, cls, fp)).1.run pins s' σ H' Q I (h _)⟩) hs
  exact ⟨_, PE.or (pe_lock p) p, ev_lcK (fun F σ H ρ x d Q S r q b => (hgf b).2 F σ H ρ x d Q S r q) (fun F σ H ρ Q S q b => (htf b).2 F σ H ρ Q S q) (fun F σ H ρ Q S q b => (hef b).2 F σ H ρ Q S q)⟩
theorem es_forK {x : Str} {body : List Stmt} {b : En → Ou Fl} (i : Nat) (hp : PassesOwn (model X.prog X.w) X.A X.env X.xe) (hc : X.calm = true) (hg : EG cl pn X tg gx) (hb : ESs cl pn X body b)
    (hx : X.N[i]? = some x := by rfl) (hv : Vis X.env.scope x := by first | exact Or.inl rfl | exact Or.inr (Or.inl rfl) | exact Or.inr (Or.inr rfl)) (hd : (x == ("__debug__" : Str)) = false := by decide) (hcd : (x == ("__classdict__" : Str)) = false := by decide)
    (hs : ∀ y, foldedSetIterable (.Name x npos) X.env y = pure y := by intro _; rfl) : ES cl pn X (.For tg (.Name x npos) body [] pos) (sForK i gx b) := fun W tk => by
  obtain ⟨_, p1, v1⟩ := hg W tk
  obtain ⟨_, p2, v2⟩ := hb W tk
  have p := ps_for (pos := pos) hp hc (pi_keys (tg := tg) (pe_var (pos := npos) hx hv hd hcd)) p1 p2 hs
  exact ⟨_, PS.or (ps_lock p) p, ev_forK v1 v2⟩
end
@[simp] theorem iKeyV_ap {i : Nat} {ρ : En} : iKeyV i ρ = (match ρ[i]? with
  | some (some (.v d)) => (match dkeys d with
    | some ds => .ok ds ρ
    | none => .st)
  | _ => .st) := rfl
@[simp] theorem frzS_ap {i : Nat} {ρ : En} : frzS i ρ = (match ρ[i]? with
  | some (some c) => if c.own then ρ.set i (some (.v c.toD)) else ρ
  | _ => ρ) := rfl
@[simp] theorem dkeys_T {es : List (List Key × D)} : dkeys (.dT es) = some (es.map fun p => .tup (p.1.map kD)) := rfl
@[simp] theorem dkeys_K {es : List (Key × D)} : dkeys (.dK es) = some (es.map fun p => kD p.1) := rfl
theorem xLcK_ap {i : Nat} {gx : D → En → Ou Unit} {tx : En → Ou Bool} {ex : En → Ou R} {vs : List Nat} {ρ : En} : xLcK i gx tx ex vs ρ = xLc (iKeyV i) gx tx ex vs (frzS i ρ) := rfl
theorem sForK_ap {i : Nat} {gx : D → En → Ou Unit} {b : En → Ou Fl} {ρ : En} : sForK i gx b ρ = noEr (sFor (iKeyV i) gx b (frzS i ρ)) := rfl
end Dm
end TxtDm42

section TxtL02M
set_option Elab.async false
set_option linter.all false
/-! L02M: mirrors (printed by gen2.py). -/
namespace L02
open PySem PySem.Spec PyProof.Rows L2 Dm

def pn__law_cube : Nat → Bool := fun _ => false
def _law_cube_q1 : En → Ou Bool :=
  (tB' (xBin (eqD false) (xBin andD (xBin shrD (xVar 2) (xVar 1)) (xC (.int 1))) (xC (.int 0))))
def _law_cube_e1 : En → Ou R :=
  (xTup (aCons (xVar 2) (aCons (xBin addD (xVar 2) (xBin shlD (xC (.int 1)) (xVar 1))) (aCons (xBin itemD (xC (.str "abcdef")) (xVar 1)) aNil))))
def _law_cube_l1 : En → Ou Fl :=
  (sDrop (xMut "list" extendC 0 (aCons (xLc (xRng1 (xC (.int 64))) (gNm 2) _law_cube_q1 _law_cube_e1 [2]) aNil)))
def _law_cube_t1 : En → Ou Fl :=
  (sRet pn__law_cube (xB tupleD (kCons (xB sortedD (kCons (xVar 0) kNil)) kNil)))
def _law_cube_t2 : En → Ou Fl :=
  (sSeq (sFor (xRng1 (xC (.int 6))) (gNm 1) _law_cube_l1)
  _law_cube_t1)
def b__law_cube : En → Ou Fl :=
  (sSeq (sAsg 0 (xLst aNil))
  _law_cube_t2)
def m__law_cube : Fm := fnM 0 3 pn__law_cube b__law_cube

def pn_is_integer : Nat → Bool := fun _ => false
def b_is_integer : En → Ou Fl :=
  (sRet pn_is_integer (xAnd (xB isiA (kCons (xVar 0) (kCons (xC (.ty "int")) kNil))) (xAnd (xNot (xB isiA (kCons (xVar 0) (kCons (xC (.ty "bool")) kNil)))) (xChain leD leD (xVar 1) (xVar 0) (xVar 2)))))
def m_is_integer : Fm := fnM 3 3 pn_is_integer b_is_integer

def pn_is_colour : Nat → Bool := fun _ => false
def is_colour_e1 : En → Ou R :=
  (xBin (inAD false) (xVar 1) (xC (.str "abcdefghijklmnopqrstuvwxyz")))
def is_colour_t1 : En → Ou Fl :=
  (sRet pn_is_colour (xB allD (kCons (xLc (iSeq (xVar 0)) (gNm 1) tTrue is_colour_e1 [1]) kNil)))
def b_is_colour : En → Ou Fl :=
  (sSeq (sIf (tOrX (tNotX (tTr (xB isiA (kCons (xVar 0) (kCons (xC (.ty "str")) kNil))))) (tNotX (tB' (xChain leD leD (xC (.int 1)) (xB lenD (kCons (xVar 0) kNil)) (xC (.int 6))))))
  (sRet pn_is_colour (xC (.bl false)))
  sNil)
  is_colour_t1)
def m_is_colour : Fm := fnM 1 2 pn_is_colour b_is_colour

def pn_is_door : Nat → Bool := fun _ => false
def is_door_t1 : En → Ou Fl :=
  (sRet pn_is_door (xAnd (xBin ltD (xVar 2) (xVar 3)) (xCal L02.m_is_colour (gVal (xVar 4) gNil))))
def is_door_t2 : En → Ou Fl :=
  (sSeq (sIf (tOrX (tNotX (tTr (xCal L02.m_is_integer (gVal (xVar 2) (gVal (xC (.int 0)) (gVal (xBin subD (xVar 0) (xC (.int 1))) gNil)))))) (tNotX (tTr (xCal L02.m_is_integer (gVal (xVar 3) (gVal (xC (.int 0)) (gVal (xBin subD (xVar 0) (xC (.int 1))) gNil)))))))
  (sRet pn_is_door (xC (.bl false)))
  sNil)
  is_door_t1)
def is_door_t3 : En → Ou Fl :=
  (sSeq (sAsgG (xVar 1) (gTp 3 (gsCons (gNm 2) (gsCons (gNm 3) (gsCons (gNm 4) gsNil)))))
  is_door_t2)
def b_is_door : En → Ou Fl :=
  (sSeq (sIf (tOrX (tNotX (tTr (xB isiA (kCons (xVar 1) (kCons (xC (.ty "tuple")) kNil))))) (tB' (xBin (eqD true) (xB lenD (kCons (xVar 1) kNil)) (xC (.int 3)))))
  (sRet pn_is_door (xC (.bl false)))
  sNil)
  is_door_t3)
def m_is_door : Fm := fnM 2 5 pn_is_door b_is_door

def pn_ends_of : Nat → Bool := fun _ => false
def ends_of_t1 : En → Ou Fl :=
  (sAsgG (xVar 6) (gIx 2 (xTup (aCons (xVar 7) (aCons (xVar 8) aNil)))))
def ends_of_t2 : En → Ou Fl :=
  (sSeq (sAsgG (xVar 7) (gIx 2 (xTup (aCons (xVar 6) (aCons (xVar 8) aNil)))))
  ends_of_t1)
def ends_of_t3 : En → Ou Fl :=
  (sSeq (sIf (tOrX (tB' (xBin (inAD false) (xTup (aCons (xVar 6) (aCons (xVar 8) aNil))) (xVar 2))) (tOrX (tB' (xBin (inAD false) (xTup (aCons (xVar 7) (aCons (xVar 8) aNil))) (xVar 2))) (tB' (xBin gtD (xB lenD (kCons (xVar 3) kNil)) (xC (.int 16))))))
  (sRz "InvalidDoors" "position" true (xVar 4))
  sNil)
  ends_of_t2)
def ends_of_t4 : En → Ou Fl :=
  (sSeq (sIf (tB' (xBin (inAD true) (xVar 8) (xVar 3)))
  (sDrop (xMut "list" appendC 3 (aCons (xVar 8) aNil)))
  sNil)
  ends_of_t3)
def ends_of_t5 : En → Ou Fl :=
  (sSeq (sAsgG (xVar 5) (gTp 3 (gsCons (gNm 6) (gsCons (gNm 7) (gsCons (gNm 8) gsNil)))))
  ends_of_t4)
def ends_of_l1 : En → Ou Fl :=
  (sSeq (sIf (tOrX (tNotX (tTr (xCal L02.m_is_door (gVal (xVar 0) (gVal (xVar 5) gNil))))) (tAndX (tB' (xBin gtD (xVar 4) (xC (.int 0)))) (tB' (xBin leTD (xVar 5) (xBin itemD (xVar 1) (xBin subD (xVar 4) (xC (.int 1))))))))
  (sRz "InvalidDoors" "position" true (xVar 4))
  sNil)
  ends_of_t5)
def ends_of_t6 : En → Ou Fl :=
  (sRet pn_ends_of (xVar 2))
def ends_of_t7 : En → Ou Fl :=
  (sSeq (sFor (iEnumA (xVar 1)) (gTp 2 (gsCons (gNm 4) (gsCons (gNm 5) gsNil))) ends_of_l1)
  ends_of_t6)
def ends_of_t8 : En → Ou Fl :=
  (sSeq (sMul [2, 3] (mCons (xNew (.dT [])) (mCons (xLst aNil) mNil)))
  ends_of_t7)
def b_ends_of : En → Ou Fl :=
  (sSeq (sIf (tNotX (tTr (xB isiA (kCons (xVar 1) (kCons (xC (.ty "tuple")) kNil)))))
  (sRz "InvalidDoors" "position" true (xC .non))
  sNil)
  ends_of_t8)
def m_ends_of : Fm := fnM 2 9 pn_ends_of b_ends_of

def pn_reached_through : Nat → Bool := fun _ => false
def reached_through_t1 : En → Ou Fl :=
  (sIf (tB' (xBin (inAD true) (xVar 5) (xVar 2)))
  (sDrop (xMut "list" appendC 2 (aCons (xVar 5) aNil)))
  sNil)
def reached_through_l1 : En → Ou Fl :=
  (sSeq (sAsg 5 (xGet2 (xVar 0) (xTup (aCons (xBin itemD (xVar 2) (xVar 3)) (aCons (xVar 4) aNil))) (xC (.int 0))))
  reached_through_t1)
def reached_through_t2 : En → Ou Fl :=
  (sAug 3 (fun a b => a + b) (xC (.int 1)))
def reached_through_l2 : En → Ou Fl :=
  (sSeq (sFor (iSeq (xVar 1)) (gNm 4) reached_through_l1)
  reached_through_t2)
def reached_through_t3 : En → Ou Fl :=
  (sRet pn_reached_through (xB sortedD (kCons (xVar 2) kNil)))
def reached_through_t4 : En → Ou Fl :=
  (sSeq (whl (tB' (xBin ltD (xVar 3) (xB lenD (kCons (xVar 2) kNil)))) reached_through_l2 1000)
  reached_through_t3)
def b_reached_through : En → Ou Fl :=
  (sSeq (sMul [2, 3] (mCons (xLst (aCons (xC (.int 0)) aNil)) (mCons (xC (.int 0)) mNil)))
  reached_through_t4)
def m_reached_through : Fm := fnM 2 6 pn_reached_through b_reached_through

def pn_House_colours : Nat → Bool := fun _ => false
def House_colours_e1 : En → Ou R :=
  (xBin itemD (xVar 1) (xC (.int 2)))
def b_House_colours : En → Ou Fl :=
  (sRet pn_House_colours (xB tupleD (kCons (xSrtS (xSetC (iSeq (xUn (fldD "doors") (xVar 0))) (gNm 1) tTrue House_colours_e1 [1])) kNil)))
def m_House_colours : Fm := fnM 1 2 pn_House_colours b_House_colours

def pn_House___init__ : Nat → Bool := fun i => i == 0
def House___init___l1 : En → Ou Fl :=
  (sIf (tB' (xBin gtD (xVar 4) (xVar 3)))
  (sRz "Unreachable" "hall" true (xVar 3))
  sNil)
def House___init___t1 : En → Ou Fl :=
  (sFor (iEnumA (xBin addD (xCal L02.m_reached_through (gVal (xUn (fldD "ends") (xVar 0)) (gVal (xMthV "House" "colours" L02.m_House_colours [0] [] (xVar 0) gNil gNil) gNil))) (xLst (aCons (xVar 1) aNil)))) (gTp 2 (gsCons (gNm 3) (gsCons (gNm 4) gsNil))) House___init___l1)
def House___init___t2 : En → Ou Fl :=
  (sSeq (sFldX 0 "doors" (xVar 2))
  House___init___t1)
def House___init___t3 : En → Ou Fl :=
  (sSeq (sFldX 0 "halls" (xVar 1))
  House___init___t2)
def House___init___t4 : En → Ou Fl :=
  (sSeq (sFldX 0 "ends" (xCal L02.m_ends_of (gVal (xVar 1) (gVal (xVar 2) gNil))))
  House___init___t3)
def b_House___init__ : En → Ou Fl :=
  (sSeq (sIf (tNotX (tTr (xCal L02.m_is_integer (gVal (xVar 1) (gVal (xC (.int 1)) (gVal (xC (.int 64)) gNil))))))
  (sRz "InvalidHalls" "halls" false (xVar 1))
  sNil)
  House___init___t4)
def m_House___init__ : Fm := fnM 3 5 pn_House___init__ b_House___init__

def pn_House___len__ : Nat → Bool := fun _ => false
def b_House___len__ : En → Ou Fl :=
  (sRet pn_House___len__ (xLenRg (xRgB (kCons (xUn (fldD "halls") (xVar 0)) kNil))))
def m_House___len__ : Fm := fnM 1 1 pn_House___len__ b_House___len__

def pn_House___repr__ : Nat → Bool := fun _ => false
def b_House___repr__ : En → Ou Fl :=
  (sRet pn_House___repr__ (xFS [(xC (.str "House(")), (xUn fmtD (xUn (fldD "halls") (xVar 0))), (xC (.str " halls, ")), (xUn fmtD (xB lenD (kCons (xUn (fldD "doors") (xVar 0)) kNil))), (xC (.str " doors)"))]))
def m_House___repr__ : Fm := fnM 1 1 pn_House___repr__ b_House___repr__

def pn__law_right : Nat → Bool := fun _ => false
def _law_right_e1 : En → Ou R :=
  (xBin itemD (xVar 4) (xC (.int 2)))
def _law_right_l1 : En → Ou Fl :=
  (sIf (tB' (xBin (eqD true) (xB reprD (kCons (xLst (aCons (xUn (fldD "halls") (xVar 6)) (aCons (xUn (fldD "doors") (xVar 6)) (aCons (xSpI "House" L02.m_House___len__ lenB (xVar 6)) (aCons (xMthV "House" "colours" L02.m_House_colours [0] [] (xVar 6) gNil gNil) (aCons (xSpI "House" L02.m_House___repr__ repB (xVar 6)) (aCons (xSpI "House" L02.m_House___len__ booB (xVar 6)) aNil))))))) kNil)) (xVar 3)))
  (sRet pn__law_right (xC (.bl false)))
  sNil)
def _law_right_t1 : En → Ou Fl :=
  (sRet pn__law_right (xC (.bl true)))
def _law_right_t2 : En → Ou Fl :=
  (sSeq (sFor (iSeq (xLst (aCons (xVar 5) (aCons (xMakD "House" L02.m_House___init__ [0, 2, 1] [] gNil (gVal (xVar 1) (gVal (xVar 0) gNil))) (aCons (xMakD "House" L02.m_House___init__ [0, 1, 2] [] (gVal (xUn (fldD "halls") (xVar 5)) gNil) (gVal (xUn (fldD "doors") (xVar 5)) gNil)) (aCons (xVar 5) aNil)))))) (gNm 6) _law_right_l1)
  _law_right_t1)
def _law_right_t3 : En → Ou Fl :=
  (sSeq (sAsg 5 (xMakD "House" L02.m_House___init__ [0, 1, 2] [] (gVal (xVar 0) (gVal (xVar 1) gNil)) gNil))
  _law_right_t2)
def _law_right_t4 : En → Ou Fl :=
  (sSeq (sAsg 3 (xB reprD (kCons (xLst (aCons (xVar 0) (aCons (xVar 1) (aCons (xVar 0) (aCons (xB tupleD (kCons (xSrtS (xSetX (kCons (xLc (iSeq (xVar 1)) (gNm 4) tTrue _law_right_e1 [4]) kNil))) kNil)) (aCons (xVar 2) (aCons (xC (.bl true)) aNil))))))) kNil)))
  _law_right_t3)
def b__law_right : En → Ou Fl :=
  (sSeq (sAsg 2 (xBin addD (xBin addD (xBin addD (xBin addD (xC (.str "House(")) (xB strD (kCons (xVar 0) kNil))) (xC (.str " halls, "))) (xB strD (kCons (xB lenD (kCons (xVar 1) kNil)) kNil))) (xC (.str " doors)"))))
  _law_right_t4)
def m__law_right : Fm := fnM 2 7 pn__law_right b__law_right

def pn__law_fixed_right : Nat → Bool := fun _ => false
def _law_fixed_right_e1 : En → Ou R :=
  (xTup (aCons (xVar 1) (aCons (xBin addD (xVar 1) (xC (.int 1))) (aCons (xBin itemD (xC (.str "ab")) (xBin modD (xVar 1) (xC (.int 2)))) aNil))))
def _law_fixed_right_e2 : En → Ou R :=
  (xTup (aCons (xC (.int 0)) (aCons (xBin addD (xVar 3) (xC (.int 1))) (aCons (xBin itemD (xC (.str "abcdefghijklmnop")) (xVar 3)) aNil))))
def _law_fixed_right_e3 : En → Ou R :=
  (xTup (aCons (xC (.int 0)) (aCons (xC (.int 1)) (aCons (xVar 5) aNil))))
def _law_fixed_right_l1 : En → Ou Fl :=
  (sIf (tNotX (tTr (xCal L02.m__law_right (gVal (xVar 6) (gVal (xVar 7) gNil)))))
  (sRet pn__law_fixed_right (xC (.bl false)))
  sNil)
def _law_fixed_right_t1 : En → Ou Fl :=
  (sRet pn__law_fixed_right (xBin (eqD false) (xB reprD (kCons (xLst (aCons (xUn (fldD "doors") (xMakD "House" L02.m_House___init__ [0, 1, 2] [.tup []] (gVal (xC (.int 1)) gNil) gNil)) (aCons (xUn (fldD "doors") (xMakD "House" L02.m_House___init__ [0, 1, 2] [.tup []] gNil (gVal (xC (.int 1)) gNil))) (aCons (xMthV "House" "colours" L02.m_House_colours [0] [] (xMakD "House" L02.m_House___init__ [0, 1, 2] [.tup []] (gVal (xC (.int 1)) gNil) gNil) gNil gNil) (aCons (xSpI "House" L02.m_House___len__ lenB (xMakD "House" L02.m_House___init__ [0, 1, 2] [.tup []] (gVal (xC (.int 1)) gNil) gNil)) aNil))))) kNil)) (xB reprD (kCons (xLst (aCons (xTup aNil) (aCons (xTup aNil) (aCons (xTup aNil) (aCons (xC (.int 1)) aNil))))) kNil))))
def _law_fixed_right_t2 : En → Ou Fl :=
  (sSeq (sFor (iSeq (xVar 4)) (gTp 2 (gsCons (gNm 6) (gsCons (gNm 7) gsNil))) _law_fixed_right_l1)
  _law_fixed_right_t1)
def _law_fixed_right_t3 : En → Ou Fl :=
  (sSeq (sAsg 4 (xBin addD (xVar 4) (xLst (aCons (xTup (aCons (xC (.int 64)) (aCons (xCal L02.m__law_cube gNil) aNil))) (aCons (xTup (aCons (xC (.int 17)) (aCons (xVar 2) aNil))) (aCons (xTup (aCons (xC (.int 2)) (aCons (xB tupleD (kCons (xLc (iSeq (xC (.str "abcdefghijklmnop"))) (gNm 5) tTrue _law_fixed_right_e3 [5]) kNil)) aNil))) aNil))))))
  _law_fixed_right_t2)
def _law_fixed_right_t4 : En → Ou Fl :=
  (sSeq (sDrop (xMut "list" appendC 4 (aCons (xTup (aCons (xC (.int 2)) (aCons (xTup (aCons (xTup (aCons (xC (.int 0)) (aCons (xC (.int 1)) (aCons (xC (.str "a")) aNil)))) (aCons (xTup (aCons (xC (.int 0)) (aCons (xC (.int 1)) (aCons (xC (.str "b")) aNil)))) (aCons (xTup (aCons (xC (.int 0)) (aCons (xC (.int 1)) (aCons (xC (.str "c")) aNil)))) aNil)))) aNil))) aNil)))
  _law_fixed_right_t3)
def _law_fixed_right_t5 : En → Ou Fl :=
  (sSeq (sAsg 4 (xLst (aCons (xTup (aCons (xC (.int 1)) (aCons (xTup aNil) aNil))) (aCons (xTup (aCons (xC (.int 2)) (aCons (xTup (aCons (xTup (aCons (xC (.int 0)) (aCons (xC (.int 1)) (aCons (xC (.str "a")) aNil)))) aNil)) aNil))) (aCons (xTup (aCons (xC (.int 2)) (aCons (xTup (aCons (xTup (aCons (xC (.int 0)) (aCons (xC (.int 1)) (aCons (xC (.str "a")) aNil)))) (aCons (xTup (aCons (xC (.int 0)) (aCons (xC (.int 1)) (aCons (xC (.str "b")) aNil)))) aNil))) aNil))) (aCons (xTup (aCons (xC (.int 64)) (aCons (xVar 0) aNil))) aNil))))))
  _law_fixed_right_t4)
def _law_fixed_right_t6 : En → Ou Fl :=
  (sSeq (sAsg 2 (xB tupleD (kCons (xLc (xRng1 (xC (.int 16))) (gNm 3) tTrue _law_fixed_right_e2 [3]) kNil)))
  _law_fixed_right_t5)
def b__law_fixed_right : En → Ou Fl :=
  (sSeq (sAsg 0 (xB tupleD (kCons (xLc (xRng1 (xC (.int 63))) (gNm 1) tTrue _law_fixed_right_e1 [1]) kNil)))
  _law_fixed_right_t6)
def m__law_fixed_right : Fm := fnM 0 8 pn__law_fixed_right b__law_fixed_right

def pn__law_purse : Nat → Bool := fun _ => false
def _law_purse_t1 : En → Ou Fl :=
  (sRet pn__law_purse (xLst (aCons (xC (.int 0)) (aCons (xBin addD (xC (.int 1)) (xBin modD (xBin addD (xBin mulB (xVar 2) (xC (.int 48271))) (xBin mulB (xBin mulB (xBin addD (xVar 1) (xC (.int 1))) (xC (.int 69621))) (xBin addD (xVar 1) (xC (.int 7))))) (xC (.int 2147483629)))) aNil))))
def _law_purse_t2 : En → Ou Fl :=
  (sSeq (sIf (tOrX (tB' (xBin geD (xVar 2) (xBin powD (xC (.int 10)) (xC (.int 18))))) (tB' (xBin ltD (xVar 2) (xC (.int 0)))))
  (sRet pn__law_purse (xLst (aCons (xB maxD (kCons (xVar 2) (kCons (xBin subD (xUn negD (xC (.int 1))) (xVar 2)) kNil))) (aCons (xC (.int 0)) aNil))))
  sNil)
  _law_purse_t1)
def b__law_purse : En → Ou Fl :=
  (sSeq (sAsg 2 (xBin itemD (xBin addD (xSl (xVar 0) (pSome (xVar 1)) (pSome (xBin addD (xVar 1) (xC (.int 1))))) (xLst (aCons (xC (.int 0)) aNil))) (xC (.int 0))))
  _law_purse_t2)
def m__law_purse : Fm := fnM 2 3 pn__law_purse b__law_purse

def pn__law_draw : Nat → Bool := fun i => i == 0
def _law_draw_t1 : En → Ou Fl :=
  (sRet pn__law_draw (xVar 2))
def _law_draw_t2 : En → Ou Fl :=
  (sSeq (sAsgG (xBin fdivD (xBin itemD (xVar 0) (xC (.int 0))) (xVar 1)) (gIx 0 (xC (.int 0))))
  _law_draw_t1)
def _law_draw_t3 : En → Ou Fl :=
  (sRet pn__law_draw (xBin modD (xBin fdivD (xBin modD (xBin mulB (xBin itemD (xVar 0) (xC (.int 1))) (xC (.int 30269))) (xC (.int 2147483563))) (xC (.int 11))) (xVar 1)))
def _law_draw_t4 : En → Ou Fl :=
  (sSeq (sAsgG (xBin addD (xC (.int 1)) (xBin modD (xBin addD (xBin mulB (xBin itemD (xVar 0) (xC (.int 1))) (xC (.int 39373))) (xC (.int 7919))) (xC (.int 2147483587)))) (gIx 0 (xC (.int 1))))
  _law_draw_t3)
def b__law_draw : En → Ou Fl :=
  (sSeq (sIf (tB' (xBin (eqD false) (xBin itemD (xVar 0) (xC (.int 1))) (xC (.int 0))))
  (sSeq (sAsg 2 (xBin modD (xBin itemD (xVar 0) (xC (.int 0))) (xVar 1)))
  _law_draw_t2)
  sNil)
  _law_draw_t4)
def m__law_draw : Fm := fnM 2 3 pn__law_draw b__law_draw

def pn__law_words : Nat → Bool := fun i => i == 0
def _law_words_e1 : En → Ou R :=
  (xBin itemD (xVar 3) (xBin modD (xBin addD (xVar 4) (xBin mulB (xC (.int 3)) (xVar 6))) (xC (.int 16))))
def _law_words_e2 : En → Ou R :=
  (xBin itemD (xVar 2) (xCal L02.m__law_draw (gIo 0 (gVal (xC (.int 26)) gNil))))
def _law_words_e3 : En → Ou R :=
  (xBin addD (xBin addD (xSl (xVar 7) pNone (pSome (xVar 8))) (xBin itemD (xVar 2) (xBin modD (xBin addD (xVar 9) (xBin mulB (xC (.int 5)) (xVar 6))) (xC (.int 26))))) (xSl (xVar 7) (pSome (xVar 8)) pNone))
def _law_words_t1 : En → Ou Fl :=
  (sRet pn__law_words (xLc (xRng1 (xVar 1)) (gNm 6) tTrue _law_words_e3 [6]))
def _law_words_t2 : En → Ou Fl :=
  (sSeq (sMul [8, 9] (mCons (xCal L02.m__law_draw (gIo 0 (gVal (xBin addD (xB lenD (kCons (xVar 7) kNil)) (xC (.int 1))) gNil))) (mCons (xCal L02.m__law_draw (gIo 0 (gVal (xC (.int 26)) gNil))) mNil)))
  _law_words_t1)
def _law_words_t3 : En → Ou Fl :=
  (sSeq (sAsg 7 (xSM joinD (xC (.str "")) (kCons (xLc (xRng1 (xCal L02.m__law_draw (gIo 0 (gVal (xC (.int 6)) gNil)))) (gNm 6) tTrue _law_words_e2 [6]) kNil)))
  _law_words_t2)
def _law_words_t4 : En → Ou Fl :=
  (sSeq (sIf (tB' (xBin (eqD false) (xVar 5) (xC (.int 0))))
  (sRet pn__law_words (xLc (xRng1 (xVar 1)) (gNm 6) tTrue _law_words_e1 [6]))
  sNil)
  _law_words_t3)
def _law_words_t5 : En → Ou Fl :=
  (sSeq (sMul [4, 5] (mCons (xCal L02.m__law_draw (gIo 0 (gVal (xC (.int 16)) gNil))) (mCons (xCal L02.m__law_draw (gIo 0 (gVal (xC (.int 4)) gNil))) mNil)))
  _law_words_t4)
def _law_words_t6 : En → Ou Fl :=
  (sSeq (sAsg 3 (xLst (aCons (xC (.str "push")) (aCons (xC (.str "open")) (aCons (xC (.str "shut")) (aCons (xC (.str "drop")) (aCons (xC (.str "undo")) (aCons (xC (.str "house")) (aCons (xC (.str "hall")) (aCons (xC (.str "lots")) (aCons (xC (.str "pair")) (aCons (xC (.str "chain")) (aCons (xC (.str "row")) (aCons (xC (.str "walk")) (aCons (xC (.str "repeat")) (aCons (xC (.str "free")) (aCons (xC (.str "bound")) (aCons (xC (.str "ok")) aNil))))))))))))))))))
  _law_words_t5)
def b__law_words : En → Ou Fl :=
  (sSeq (sAsg 2 (xC (.str "abcdefghijklmnopqrstuvwxyz")))
  _law_words_t6)
def m__law_words : Fm := fnM 2 10 pn__law_words b__law_words

def pn__law_grown : Nat → Bool := fun i => i == 0
def _law_grown_q1 : En → Ou Bool :=
  (tB' (xBin (inAD true) (xTup (aCons (xVar 7) (aCons (xVar 8) aNil))) (xVar 3)))
def _law_grown_e1 : En → Ou R :=
  (xTup (aCons (xVar 7) (aCons (xVar 8) aNil)))
def _law_grown_l1 : En → Ou Fl :=
  (sDrop (xMut "list" extendC 6 (aCons (xLc (iSeq (xVar 2)) (gNm 8) _law_grown_q1 _law_grown_e1 [8]) aNil)))
def _law_grown_t1 : En → Ou Fl :=
  (sAsg 4 (xBin addD (xVar 4) (xC (.int 1))))
def _law_grown_t2 : En → Ou Fl :=
  (sSeq (sAsgG (xVar 7) (gIx 3 (xTup (aCons (xVar 4) (aCons (xVar 8) aNil)))))
  _law_grown_t1)
def _law_grown_t3 : En → Ou Fl :=
  (sSeq (sAsgG (xVar 4) (gIx 3 (xTup (aCons (xVar 7) (aCons (xVar 8) aNil)))))
  _law_grown_t2)
def _law_grown_t4 : En → Ou Fl :=
  (sIf (tB' (xBin (eqD true) (xVar 6) (xLst aNil)))
  (sSeq (sAsgG (xBin itemD (xVar 6) (xCal L02.m__law_draw (gIo 0 (gVal (xB lenD (kCons (xVar 6) kNil)) gNil)))) (gTp 2 (gsCons (gNm 7) (gsCons (gNm 8) gsNil))))
  _law_grown_t3)
  sNil)
def _law_grown_t5 : En → Ou Fl :=
  (sSeq (sFor (xRng1 (xVar 4)) (gNm 7) _law_grown_l1)
  _law_grown_t4)
def _law_grown_l2 : En → Ou Fl :=
  (sSeq (sAsg 6 (xLst aNil))
  _law_grown_t5)
def _law_grown_t6 : En → Ou Fl :=
  (sAsgG (xVar 9) (gIx 3 (xTup (aCons (xVar 10) (aCons (xVar 8) aNil)))))
def _law_grown_t7 : En → Ou Fl :=
  (sIf (tAndX (tB' (xBin (eqD true) (xVar 9) (xVar 10))) (tAndX (tB' (xBin (inAD true) (xTup (aCons (xVar 9) (aCons (xVar 8) aNil))) (xVar 3))) (tB' (xBin (inAD true) (xTup (aCons (xVar 10) (aCons (xVar 8) aNil))) (xVar 3)))))
  (sSeq (sAsgG (xVar 10) (gIx 3 (xTup (aCons (xVar 9) (aCons (xVar 8) aNil)))))
  _law_grown_t6)
  sNil)
def _law_grown_l3 : En → Ou Fl :=
  (sSeq (sMul [9, 10, 8] (mCons (xCal L02.m__law_draw (gIo 0 (gVal (xVar 4) gNil))) (mCons (xCal L02.m__law_draw (gIo 0 (gVal (xVar 4) gNil))) (mCons (xBin itemD (xVar 2) (xCal L02.m__law_draw (gIo 0 (gVal (xB lenD (kCons (xVar 2) kNil)) gNil)))) mNil))))
  _law_grown_t7)
def _law_grown_t8 : En → Ou Fl :=
  (sRet pn__law_grown (xTup (aCons (xVar 4) (aCons (xVar 3) aNil))))
def _law_grown_t9 : En → Ou Fl :=
  (sSeq (sFor (xRng1 (xCal L02.m__law_draw (gIo 0 (gVal (xBin addD (xC (.int 2)) (xVar 4)) gNil)))) (gNm 5) _law_grown_l3)
  _law_grown_t8)
def _law_grown_t10 : En → Ou Fl :=
  (sSeq (sFor (xRng1 (xCal L02.m__law_draw (gIo 0 (gVal (xVar 1) gNil)))) (gNm 5) _law_grown_l2)
  _law_grown_t9)
def b__law_grown : En → Ou Fl :=
  (sSeq (sMul [3, 4] (mCons (xNew (.dT [])) (mCons (xC (.int 1)) mNil)))
  _law_grown_t10)
def m__law_grown : Fm := fnM 3 11 pn__law_grown b__law_grown

def pn__law_doors : Nat → Bool := fun _ => false
def _law_doors_q1 : En → Ou Bool :=
  (tB' (xBin ltD (xVar 1) (xBin itemD (xVar 0) (xTup (aCons (xVar 1) (aCons (xVar 2) aNil))))))
def _law_doors_e1 : En → Ou R :=
  (xTup (aCons (xVar 1) (aCons (xBin itemD (xVar 0) (xTup (aCons (xVar 1) (aCons (xVar 2) aNil)))) (aCons (xVar 2) aNil))))
def b__law_doors : En → Ou Fl :=
  (sRet pn__law_doors (xB tupleD (kCons (xB sortedD (kCons (xLcK 0 (gTp 2 (gsCons (gNm 1) (gsCons (gNm 2) gsNil))) _law_doors_q1 _law_doors_e1 [1, 2]) kNil)) kNil)))
def m__law_doors : Fm := fnM 1 3 pn__law_doors b__law_doors

def pn__law_drawn : Nat → Bool := fun i => i == 0
def _law_drawn_t1 : En → Ou Fl :=
  (sRet pn__law_drawn (xTup (aCons (xVar 3) (aCons (xCal L02.m__law_doors (gVal (xVar 4) gNil)) aNil))))
def _law_drawn_t2 : En → Ou Fl :=
  (sSeq (sAsgG (xCal L02.m__law_grown (gIo 0 (gVal (xBin itemD (xLst (aCons (xC (.int 12)) (aCons (xC (.int 64)) aNil))) (xVar 1)) (gVal (xVar 2) gNil)))) (gTp 2 (gsCons (gNm 3) (gsCons (gNm 4) gsNil))))
  _law_drawn_t1)
def _law_drawn_t3 : En → Ou Fl :=
  (sSeq (sAsg 2 (xCal L02.m__law_words (gIo 0 (gVal (xBin addD (xC (.int 1)) (xCal L02.m__law_draw (gIo 0 (gVal (xBin itemD (xLst (aCons (xC (.int 5)) (aCons (xC (.int 16)) aNil))) (xVar 1)) gNil)))) gNil))))
  _law_drawn_t2)
def b__law_drawn : En → Ou Fl :=
  (sSeq (sAsg 1 (xB intD (kCons (xBin (eqD false) (xCal L02.m__law_draw (gIo 0 (gVal (xC (.int 8)) gNil))) (xC (.int 3))) kNil)))
  _law_drawn_t3)
def m__law_drawn : Fm := fnM 1 5 pn__law_drawn b__law_drawn

def pn_law : Nat → Bool := fun _ => false
def law_t1 : En → Ou Fl :=
  (sIf (tNotX (tTr (xCal L02.m__law_right (gVal (xVar 4) (gVal (xVar 5) gNil)))))
  (sRet pn_law (xC (.bl false)))
  sNil)
def law_l1 : En → Ou Fl :=
  (sSeq (sAsgG (xCal L02.m__law_drawn (gIo 2 gNil)) (gTp 2 (gsCons (gNm 4) (gsCons (gNm 5) gsNil))))
  law_t1)
def law_t2 : En → Ou Fl :=
  (sFor (xRng1 (xC (.int 2))) (gNm 3) law_l1)
def law_l2 : En → Ou Fl :=
  (sSeq (sAsg 2 (xCal L02.m__law_purse (gVal (xVar 0) (gVal (xVar 1) gNil))))
  law_t2)
def law_t3 : En → Ou Fl :=
  (sRet pn_law (xC (.bl true)))
def law_t4 : En → Ou Fl :=
  (sSeq (sFor (xRng1 (xB maxD (kCons (xC (.int 2)) (kCons (xB minD (kCons (xB lenD (kCons (xVar 0) kNil)) (kCons (xC (.int 6)) kNil))) kNil)))) (gNm 1) law_l2)
  law_t3)
def b_law : En → Ou Fl :=
  (sSeq (sIf (tNotX (tTr (xCal L02.m__law_fixed_right gNil)))
  (sRet pn_law (xC (.bl false)))
  sNil)
  law_t4)
def m_law : Fm := fnM 1 6 pn_law b_law
end L02
end TxtL02M

section TxtL02W
set_option Elab.async false
set_option linter.all false
set_option maxRecDepth 100000
namespace L02W
open PySem PySem.Spec PyProof.Rows L2 Dm

def top (i : Nat) : Stmt := PySem.Challenge.pw_doorlots_k02_house_values.main.body.getD i (.Pass ⟨0, 0, 0, 0⟩)
abbrev s__law_cube : Stmt := top 29
abbrev ps__law_cube : List Str := []
abbrev nm__law_cube : List Str := ["_law_found", "_law_bit", "_law_spot"]
abbrev s_is_integer : Stmt := top 14
abbrev ps_is_integer : List Str := ["value", "least", "most"]
abbrev nm_is_integer : List Str := ["value", "least", "most"]
abbrev s_is_colour : Stmt := top 15
abbrev ps_is_colour : List Str := ["value"]
abbrev nm_is_colour : List Str := ["value", "letter"]
abbrev s_is_door : Stmt := top 16
abbrev ps_is_door : List Str := ["halls", "value"]
abbrev nm_is_door : List Str := ["halls", "value", "one", "other", "colour"]
abbrev s_ends_of : Stmt := top 19
abbrev ps_ends_of : List Str := ["halls", "doors"]
abbrev nm_ends_of : List Str := ["halls", "doors", "ends", "colours", "position", "door", "one", "other", "colour"]
abbrev s_reached_through : Stmt := top 20
abbrev ps_reached_through : List Str := ["ends", "colours"]
abbrev nm_reached_through : List Str := ["ends", "colours", "found", "at", "colour", "hall"]
abbrev s_House_colours : Stmt := inClass (top 21) 5
abbrev ps_House_colours : List Str := ["self"]
abbrev nm_House_colours : List Str := ["self", "door"]
abbrev s_House___init__ : Stmt := inClass (top 21) 0
abbrev ps_House___init__ : List Str := ["self", "halls", "doors"]
abbrev nm_House___init__ : List Str := ["self", "halls", "doors", "place", "hall"]
abbrev s_House___len__ : Stmt := inClass (top 21) 2
abbrev ps_House___len__ : List Str := ["self"]
abbrev nm_House___len__ : List Str := ["self"]
abbrev s_House___repr__ : Stmt := inClass (top 21) 4
abbrev ps_House___repr__ : List Str := ["self"]
abbrev nm_House___repr__ : List Str := ["self"]
abbrev s__law_right : Stmt := top 30
abbrev ps__law_right : List Str := ["_law_rooms", "_law_gates"]
abbrev nm__law_right : List Str := ["_law_rooms", "_law_gates", "_law_shown", "_law_due", "_law_gate", "_law_house", "_law_one"]
abbrev s__law_fixed_right : Stmt := top 31
abbrev ps__law_fixed_right : List Str := []
abbrev nm__law_fixed_right : List Str := ["_law_line", "_law_spot", "_law_star", "_law_k", "_law_pairs", "_law_word", "_law_rooms", "_law_gates"]
abbrev s__law_purse : Stmt := top 23
abbrev ps__law_purse : List Str := ["_law_script", "_law_k"]
abbrev nm__law_purse : List Str := ["_law_script", "_law_k", "_law_cell"]
abbrev s__law_draw : Stmt := top 24
abbrev ps__law_draw : List Str := ["_law_purse_here", "_law_many"]
abbrev nm__law_draw : List Str := ["_law_purse_here", "_law_many", "_law_digit"]
abbrev s__law_words : Stmt := top 25
abbrev ps__law_words : List Str := ["_law_purse_here", "_law_size"]
abbrev nm__law_words : List Str := ["_law_purse_here", "_law_size", "_law_letters", "_law_menu", "_law_first", "_law_way", "_law_k", "_law_stem", "_law_at", "_law_begin"]
abbrev s__law_grown : Stmt := top 26
abbrev ps__law_grown : List Str := ["_law_purse_here", "_law_most", "_law_words_here"]
abbrev nm__law_grown : List Str := ["_law_purse_here", "_law_most", "_law_words_here", "_law_ends", "_law_size", "_law_turn", "_law_free", "_law_spot", "_law_word", "_law_one", "_law_other"]
abbrev s__law_doors : Stmt := top 27
abbrev ps__law_doors : List Str := ["_law_ends"]
abbrev nm__law_doors : List Str := ["_law_ends", "_law_spot", "_law_word"]
abbrev s__law_drawn : Stmt := top 28
abbrev ps__law_drawn : List Str := ["_law_purse_here"]
abbrev nm__law_drawn : List Str := ["_law_purse_here", "_law_wide", "_law_words_here", "_law_size", "_law_ends"]
abbrev s_law : Stmt := top 32
abbrev ps_law : List Str := ["_law_script"]
abbrev nm_law : List Str := ["_law_script", "_law_k", "_law_purse_here", "_law_turn", "_law_rooms", "_law_gates"]
structure Txt (K : PySem.W.Frag) (mg : Str → Option Value) (cl : Str → Option Addr) (C_House C_InvalidHalls C_InvalidDoors C_Unreachable : Addr) : Prop where
  z_all : mg "all" = none
  z_bool : mg "bool" = none
  z_enumerate : mg "enumerate" = none
  z_int : mg "int" = none
  z_isinstance : mg "isinstance" = none
  z_len : mg "len" = none
  z_max : mg "max" = none
  z_min : mg "min" = none
  z_range : mg "range" = none
  z_repr : mg "repr" = none
  z_set : mg "set" = none
  z_sorted : mg "sorted" = none
  z_str : mg "str" = none
  z_tuple : mg "tuple" = none
  c_LETTERS : ∃ t, mg "LETTERS" = some (.str "abcdefghijklmnopqrstuvwxyz" t)
  c_MOST_COLOURS : ∃ t, mg "MOST_COLOURS" = some (.int 16 t)
  c_MOST_HALLS : ∃ t, mg "MOST_HALLS" = some (.int 64 t)
  m_House : mg "House" = some (.ref C_House)
  cl_House : cl "House" = some C_House
  k_House : Cls K C_House
  m_InvalidHalls : mg "InvalidHalls" = some (.ref C_InvalidHalls)
  cx_InvalidHalls : cl (xk "InvalidHalls") = some C_InvalidHalls
  m_InvalidDoors : mg "InvalidDoors" = some (.ref C_InvalidDoors)
  cx_InvalidDoors : cl (xk "InvalidDoors") = some C_InvalidDoors
  m_Unreachable : mg "Unreachable" = some (.ref C_Unreachable)
  cx_Unreachable : cl (xk "Unreachable") = some C_Unreachable
  f_doors : ClF cl K "doors"
  f_ends : ClF cl K "ends"
  f_halls : ClF cl K "halls"
  isi : IsiF K cl
  nop : True
section
variable {P : Program} {w : World} {K : PySem.W.Frag} {mg : Str → Option Value} {base : Heap} {cl : Str → Option Addr} {C_House C_InvalidHalls C_InvalidDoors C_Unreachable : Addr}
abbrev s_InvalidHalls : Stmt := inClass (top 6) 0
theorem sc_InvalidHalls : FnScope ["self", "halls"] ["self", "halls"] (defScope s_InvalidHalls) := ⟨rfl, rfl, rfl, by decide +kernel, rfl, by decide +kernel, by decide +kernel⟩
theorem xi_InvalidHalls {C CB f : Addr} {fd : FuncData} (F : Fun K "__init__" "InvalidHalls.__init__" s_InvalidHalls f fd) (TC : XCls K "ValueError" "ValueError.__new__" C) (hno : PySem.W.findIn K (.ref C) "halls" = some none) (XB : XBase K "ValueError.__init__" CB) (hm : mg "InvalidInput" = some (.ref CB)) : FnOk P w K mg base (L2.CX P w) 1 f fd ["self", "halls"] (spXI C "halls" false) :=
  xinit_fn F sc_InvalidHalls TC hno fun cdv A outer s H E => ⟨_, xmsg_c, pss_cons (ps_expr (pe_xinit xbas_V (by decide +kernel) XB hm (pa_cons (pv 0) (pa_cons pe_str pa_nil)))) (pss_one (ps_xfld xbas_V (pv 0) (pv 1)))⟩
abbrev s_InvalidDoors : Stmt := inClass (top 7) 0
theorem sc_InvalidDoors : FnScope ["self", "position"] ["self", "position"] (defScope s_InvalidDoors) := ⟨rfl, rfl, rfl, by decide +kernel, rfl, by decide +kernel, by decide +kernel⟩
theorem xi_InvalidDoors {C CB f : Addr} {fd : FuncData} (F : Fun K "__init__" "InvalidDoors.__init__" s_InvalidDoors f fd) (TC : XCls K "ValueError" "ValueError.__new__" C) (hno : PySem.W.findIn K (.ref C) "position" = some none) (XB : XBase K "ValueError.__init__" CB) (hm : mg "InvalidInput" = some (.ref CB)) : FnOk P w K mg base (L2.CX P w) 1 f fd ["self", "position"] (spXI C "position" true) :=
  xinit_fn F sc_InvalidDoors TC hno fun cdv A outer s H E => ⟨_, (xmsg_3 (by decide +kernel) (by decide +kernel)), pss_cons (ps_expr (pe_xinit xbas_V (by decide +kernel) XB hm (pa_cons (pv 0) (pa_cons (pe_joined (.cons pe_str (.cons (pe_fmtN (pv 1)) (.cons pe_str PJ.nil)))) pa_nil)))) (pss_one (ps_xfld xbas_V (pv 0) (pv 1)))⟩
abbrev s_Unreachable : Stmt := inClass (top 10) 0
theorem sc_Unreachable : FnScope ["self", "hall"] ["self", "hall"] (defScope s_Unreachable) := ⟨rfl, rfl, rfl, by decide +kernel, rfl, by decide +kernel, by decide +kernel⟩
theorem xi_Unreachable {C CB f : Addr} {fd : FuncData} (F : Fun K "__init__" "Unreachable.__init__" s_Unreachable f fd) (TC : XCls K "RuntimeError" "RuntimeError.__new__" C) (hno : PySem.W.findIn K (.ref C) "hall" = some none) (XB : XBase K "RuntimeError.__init__" CB) (hm : mg "StateError" = some (.ref CB)) : FnOk P w K mg base (L2.CX P w) 1 f fd ["self", "hall"] (spXI C "hall" true) :=
  xinit_fn F sc_Unreachable TC hno fun cdv A outer s H E => ⟨_, (xmsg_3 (by decide +kernel) (by decide +kernel)), pss_cons (ps_expr (pe_xinit xbas_R (by decide +kernel) XB hm (pa_cons (pv 0) (pa_cons (pe_joined (.cons pe_str (.cons (pe_fmtN (pv 1)) (.cons pe_str PJ.nil)))) pa_nil)))) (pss_one (ps_xfld xbas_R (pv 0) (pv 1)))⟩
theorem sc__law_cube : FnScope nm__law_cube ps__law_cube (defScope s__law_cube) := ⟨rfl, rfl, rfl, by decide +kernel, rfl, by decide +kernel, by decide +kernel⟩
theorem ok__law_cube (T : Txt K mg cl C_House C_InvalidHalls C_InvalidDoors C_Unreachable) {f : Addr} {fd : FuncData} (F : Fun K "_law_cube" "_law_cube" s__law_cube f fd) : FnG P w K mg base (L2.CX P w) 1 f fd ps__law_cube (spM K cl 0 L02.m__law_cube) :=
  fn_ok (pn := L02.pn__law_cube) F sc__law_cube 0 3 rfl rfl fun cdv A outer s H E hr =>
    (ess_cons (es_set 0 sc__law_cube.nd (ee_lst ea_nil)) (ess_cons (es_for (passes_of rfl) rfl (ei_rng1 T.z_range ee_int) (eg_name 1 sc__law_cube.nd) (ess_one (es_expr (ee_extend 0 (ea_cons (ee_lc [("_law_spot", 2)] rfl sc__law_cube.nd (ei_rng1 T.z_range ee_int) (blkOk_by (N := nm__law_cube) (sc := defScope s__law_cube) (by decide +kernel)) (fun _ _ _ _ _ => (eg_name 2 sc__law_cube.nd)) (fun _ _ _ _ _ => (ets_one (et_eq hr.room (ee_band (ee_shr (ee_var 2) (ee_var 1)) ee_int) ee_int))) (fun _ _ _ _ _ => (ee_tup (ea_cons (ee_var 2) (ea_cons (ee_add (ee_var 2) (ee_shl ee_int (ee_var 1))) (ea_cons (ee_ix hr.room ee_str (ee_var 1)) ea_nil)))))) ea_nil))))) (ess_one (es_ret (ee_bt call_tuple_of rs_tuple bt_tuple T.z_tuple (ek_cons (ee_bf (cr_sortD hr.room) rs_sorted bt_sorted T.z_sorted (ek_cons (ee_var 0) ek_nil)) ek_nil))))))
theorem sc_is_integer : FnScope nm_is_integer ps_is_integer (defScope s_is_integer) := ⟨rfl, rfl, rfl, by decide +kernel, rfl, by decide +kernel, by decide +kernel⟩
theorem ok_is_integer (T : Txt K mg cl C_House C_InvalidHalls C_InvalidDoors C_Unreachable) {f : Addr} {fd : FuncData} (F : Fun K "is_integer" "is_integer" s_is_integer f fd) : FnG P w K mg base (L2.CX P w) 1 f fd ps_is_integer (spM K cl 3 L02.m_is_integer) :=
  fn_ok (pn := L02.pn_is_integer) F sc_is_integer 3 3 rfl rfl fun cdv A outer s H E hr =>
    (ess_one (es_ret (ee_and (ee_bf call_isi (rs_isiA T.isi) bt_isinstance T.z_isinstance (ek_cons (ee_var 0) (ek_cons (ee_ty bt_int T.z_int) ek_nil))) (ee_and (ee_not (ee_bf call_isi (rs_isiA T.isi) bt_isinstance T.z_isinstance (ek_cons (ee_var 0) (ek_cons (ee_ty bt_bool T.z_bool) ek_nil)))) (ee_one (ee_chain op_leA rs_leA op_leA rs_leA (ee_var 1) (ee_var 0) (ee_var 2)))))))
theorem sc_is_colour : FnScope nm_is_colour ps_is_colour (defScope s_is_colour) := ⟨rfl, rfl, rfl, by decide +kernel, rfl, by decide +kernel, by decide +kernel⟩
theorem ok_is_colour (T : Txt K mg cl C_House C_InvalidHalls C_InvalidDoors C_Unreachable) {f : Addr} {fd : FuncData} (F : Fun K "is_colour" "is_colour" s_is_colour f fd) : FnG P w K mg base (L2.CX P w) 1 f fd ps_is_colour (spM K cl 1 L02.m_is_colour) :=
  fn_ok (pn := L02.pn_is_colour) F sc_is_colour 1 2 rfl rfl fun cdv A outer s H E hr =>
    (ess_cons (es_if (EW.et (ew_or (et_not (et_val (ee_bf call_isi (rs_isiA T.isi) bt_isinstance T.z_isinstance (ek_cons (ee_var 0) (ek_cons (ee_ty bt_str T.z_str) ek_nil))))) (ew_or1 (et_not (et_chain op_leA rs_leA op_leA rs_leA ee_int (ee_bf call_lenA rs_len bt_len T.z_len (ek_cons (ee_var 0) ek_nil)) ee_int))))) (ess_one (es_ret ee_bl)) ess_nil) (ess_one (es_ret (ee_bf (cr_all rfl) rs_all bt_all T.z_all (ek_cons (ee_lc [("letter", 1)] rfl sc_is_colour.nd (ei_seq (ee_var 0)) (blkOk_by (N := nm_is_colour) (sc := defScope s_is_colour) (by decide +kernel)) (fun _ _ _ _ _ => (eg_name 1 sc_is_colour.nd)) (fun _ _ _ _ _ => ets_nil) (fun _ _ _ _ _ => (ee_in hr.room (ee_var 1) (ee_gS T.c_LETTERS)))) ek_nil)))))
theorem sc_is_door : FnScope nm_is_door ps_is_door (defScope s_is_door) := ⟨rfl, rfl, rfl, by decide +kernel, rfl, by decide +kernel, by decide +kernel⟩
theorem ok_is_door (T : Txt K mg cl C_House C_InvalidHalls C_InvalidDoors C_Unreachable) {f_is_colour : Addr} {fd_is_colour : FuncData} (G_is_colour : Cal P w K mg base cl "is_colour" 1 1 L02.m_is_colour f_is_colour fd_is_colour ps_is_colour) {f_is_integer : Addr} {fd_is_integer : FuncData} (G_is_integer : Cal P w K mg base cl "is_integer" 1 3 L02.m_is_integer f_is_integer fd_is_integer ps_is_integer) {f : Addr} {fd : FuncData} (F : Fun K "is_door" "is_door" s_is_door f fd) : FnG P w K mg base (L2.CX P w) 2 f fd ps_is_door (spM K cl 2 L02.m_is_door) :=
  fn_ok (pn := L02.pn_is_door) F sc_is_door 2 5 rfl rfl fun cdv A outer s H E hr =>
    (ess_cons (es_if (EW.et (ew_or (et_not (et_val (ee_bf call_isi (rs_isiA T.isi) bt_isinstance T.z_isinstance (ek_cons (ee_var 1) (ek_cons (ee_ty bt_tuple T.z_tuple) ek_nil))))) (ew_or1 (et_ne hr.room (ee_bf call_lenA rs_len bt_len T.z_len (ek_cons (ee_var 1) ek_nil)) ee_int)))) (ess_one (es_ret ee_bl)) ess_nil) (ess_cons (es_asg (ee_var 1) (eg_tup rfl (egs_cons (eg_name 2 sc_is_door.nd) (egs_cons (eg_name 3 sc_is_door.nd) (egs_cons (eg_name 4 sc_is_door.nd) egs_nil))))) (ess_cons (es_if (EW.et (ew_or (et_not (et_val (ee_cal G_is_integer hr (el_val (ee_var 2) (el_val ee_int (el_val (ee_sub (ee_var 0) ee_int) el_nil))) (gLen_val (gLen_val (gLen_val gLen_nil)))))) (ew_or1 (et_not (et_val (ee_cal G_is_integer hr (el_val (ee_var 3) (el_val ee_int (el_val (ee_sub (ee_var 0) ee_int) el_nil))) (gLen_val (gLen_val (gLen_val gLen_nil))))))))) (ess_one (es_ret ee_bl)) ess_nil) (ess_one (es_ret (ee_and (ee_lt (ee_var 2) (ee_var 3)) (ee_one (ee_cal G_is_colour hr (el_val (ee_var 4) el_nil) (gLen_val gLen_nil)))))))))
theorem sc_ends_of : FnScope nm_ends_of ps_ends_of (defScope s_ends_of) := ⟨rfl, rfl, rfl, by decide +kernel, rfl, by decide +kernel, by decide +kernel⟩
theorem ok_ends_of (T : Txt K mg cl C_House C_InvalidHalls C_InvalidDoors C_Unreachable) {f_is_door : Addr} {fd_is_door : FuncData} (G_is_door : Cal P w K mg base cl "is_door" 2 2 L02.m_is_door f_is_door fd_is_door ps_is_door) {f_InvalidDoors : Addr} {fd_InvalidDoors : FuncData} (Mx_InvalidDoors : XMk K "ValueError" "ValueError.__new__" C_InvalidDoors f_InvalidDoors) (Gx_InvalidDoors : FnOk P w K mg base (L2.CX P w) 1 f_InvalidDoors fd_InvalidDoors ["self", "position"] (spXI C_InvalidDoors "position" true)) (Bx_InvalidDoors : Binds K fd_InvalidDoors ["self", "position"] []) {f : Addr} {fd : FuncData} (F : Fun K "ends_of" "ends_of" s_ends_of f fd) : FnG P w K mg base (L2.CX P w) 3 f fd ps_ends_of (spM K cl 2 L02.m_ends_of) :=
  fn_ok (pn := L02.pn_ends_of) F sc_ends_of 2 9 rfl rfl fun cdv A outer s H E hr =>
    (ess_cons (es_if (et_not (et_val (ee_bf call_isi (rs_isiA T.isi) bt_isinstance T.z_isinstance (ek_cons (ee_var 1) (ek_cons (ee_ty bt_tuple T.z_tuple) ek_nil))))) (ess_one (es_raise xbas_V Mx_InvalidDoors Gx_InvalidDoors hr Bx_InvalidDoors T.m_InvalidDoors T.cx_InvalidDoors ee_non)) ess_nil) (ess_cons (es_par2 2 3 rfl sc_ends_of.nd (em_cons ee_newT (em_cons (ee_lst ea_nil) em_nil))) (ess_cons (es_for (passes_of rfl) rfl (ei_enum T.z_enumerate (ee_var 1)) (eg_tup rfl (egs_cons (eg_name 4 sc_ends_of.nd) (egs_cons (eg_name 5 sc_ends_of.nd) egs_nil))) (ess_cons (es_if (EW.et (ew_or (et_not (et_val (ee_cal G_is_door hr (el_val (ee_var 0) (el_val (ee_var 5) el_nil)) (gLen_val (gLen_val gLen_nil))))) (ew_or1 (EW.et (ew_and (et_gt (ee_var 4) ee_int) (ew_and1 (et_leT hr (ee_var 5) (ee_ix hr.room (ee_var 1) (ee_sub (ee_var 4) ee_int))))))))) (ess_one (es_raise xbas_V Mx_InvalidDoors Gx_InvalidDoors hr Bx_InvalidDoors T.m_InvalidDoors T.cx_InvalidDoors (ee_var 4))) ess_nil) (ess_cons (es_asg (ee_var 5) (eg_tup rfl (egs_cons (eg_name 6 sc_ends_of.nd) (egs_cons (eg_name 7 sc_ends_of.nd) (egs_cons (eg_name 8 sc_ends_of.nd) egs_nil))))) (ess_cons (es_if (et_notIn hr.room (ee_var 8) (ee_var 3)) (ess_one (es_expr (ee_append 3 (ea_cons (ee_var 8) ea_nil)))) ess_nil) (ess_cons (es_if (EW.et (ew_or (et_in hr.room (ee_tup (ea_cons (ee_var 6) (ea_cons (ee_var 8) ea_nil))) (ee_var 2)) (ew_or (et_in hr.room (ee_tup (ea_cons (ee_var 7) (ea_cons (ee_var 8) ea_nil))) (ee_var 2)) (ew_or1 (et_gt (ee_bf call_lenA rs_len bt_len T.z_len (ek_cons (ee_var 3) ek_nil)) (ee_gI T.c_MOST_COLOURS)))))) (ess_one (es_raise xbas_V Mx_InvalidDoors Gx_InvalidDoors hr Bx_InvalidDoors T.m_InvalidDoors T.cx_InvalidDoors (ee_var 4))) ess_nil) (ess_cons (es_asg (ee_var 7) (eg_ix 2 hr.room (ee_tup (ea_cons (ee_var 6) (ea_cons (ee_var 8) ea_nil))))) (ess_one (es_asg (ee_var 6) (eg_ix 2 hr.room (ee_tup (ea_cons (ee_var 7) (ea_cons (ee_var 8) ea_nil)))))))))))) (ess_one (es_ret (ee_var 2))))))
theorem sc_reached_through : FnScope nm_reached_through ps_reached_through (defScope s_reached_through) := ⟨rfl, rfl, rfl, by decide +kernel, rfl, by decide +kernel, by decide +kernel⟩
theorem ok_reached_through (T : Txt K mg cl C_House C_InvalidHalls C_InvalidDoors C_Unreachable) {f : Addr} {fd : FuncData} (F : Fun K "reached_through" "reached_through" s_reached_through f fd) : FnG P w K mg base (L2.CX P w) 1 f fd ps_reached_through (spM K cl 2 L02.m_reached_through) :=
  fn_ok (pn := L02.pn_reached_through) F sc_reached_through 2 6 rfl rfl fun cdv A outer s H E hr =>
    (ess_cons (es_par2 2 3 rfl sc_reached_through.nd (em_cons (ee_lst (ea_cons ee_int ea_nil)) (em_cons ee_int em_nil))) (ess_cons (es_while 1000 (passes_of rfl) (et_lt (ee_var 3) (ee_bf call_lenA rs_len bt_len T.z_len (ek_cons (ee_var 2) ek_nil))) (ess_cons (es_for (passes_of rfl) rfl (ei_seq (ee_var 1)) (eg_name 4 sc_reached_through.nd) (ess_cons (es_set 5 sc_reached_through.nd (ee_get2 hr (ee_var 0) (ee_tup (ea_cons (ee_ix hr.room (ee_var 2) (ee_var 3)) (ea_cons (ee_var 4) ea_nil))) ee_int)) (ess_one (es_if (et_notIn hr.room (ee_var 5) (ee_var 2)) (ess_one (es_expr (ee_append 2 (ea_cons (ee_var 5) ea_nil)))) ess_nil)))) (ess_one (es_augAdd 3 sc_reached_through.nd ee_int)))) (ess_one (es_ret (ee_bf (cr_sortD hr.room) rs_sorted bt_sorted T.z_sorted (ek_cons (ee_var 2) ek_nil))))))
theorem sc_House_colours : FnScope nm_House_colours ps_House_colours (defScope s_House_colours) := ⟨rfl, rfl, rfl, by decide +kernel, rfl, by decide +kernel, by decide +kernel⟩
theorem ok_House_colours (T : Txt K mg cl C_House C_InvalidHalls C_InvalidDoors C_Unreachable) {f : Addr} {fd : FuncData} (F : Fun K "colours" "House.colours" s_House_colours f fd) : FnG P w K mg base (L2.CX P w) 1 f fd ps_House_colours (spM K cl 1 L02.m_House_colours) :=
  fn_ok (pn := L02.pn_House_colours) F sc_House_colours 1 2 rfl rfl fun cdv A outer s H E hr =>
    (ess_one (es_ret (ee_bt call_tuple_of rs_tuple bt_tuple T.z_tuple (ek_cons (ee_srtS hr.room bt_sorted T.z_sorted (est_comp [("door", 1)] rfl sc_House_colours.nd (ei_seq (ee_fld T.f_doors (ee_var 0))) (blkOk_by (N := nm_House_colours) (sc := defScope s_House_colours) (by decide +kernel)) (fun _ _ _ _ _ => (eg_name 1 sc_House_colours.nd)) (fun _ _ _ _ _ => ets_nil) (fun _ _ _ _ _ => (ee_ix hr.room (ee_var 1) ee_int)))) ek_nil))))
theorem sc_House___init__ : FnScope nm_House___init__ ps_House___init__ (defScope s_House___init__) := ⟨rfl, rfl, rfl, by decide +kernel, rfl, by decide +kernel, by decide +kernel⟩
theorem ok_House___init__ (T : Txt K mg cl C_House C_InvalidHalls C_InvalidDoors C_Unreachable) {f_House_colours : Addr} {fd_House_colours : FuncData} (G_House_colours : CalF P w K mg base cl 1 1 L02.m_House_colours f_House_colours fd_House_colours ps_House_colours) {f_ends_of : Addr} {fd_ends_of : FuncData} (G_ends_of : Cal P w K mg base cl "ends_of" 3 2 L02.m_ends_of f_ends_of fd_ends_of ps_ends_of) {f_is_integer : Addr} {fd_is_integer : FuncData} (G_is_integer : Cal P w K mg base cl "is_integer" 1 3 L02.m_is_integer f_is_integer fd_is_integer ps_is_integer) {f_reached_through : Addr} {fd_reached_through : FuncData} (G_reached_through : Cal P w K mg base cl "reached_through" 1 2 L02.m_reached_through f_reached_through fd_reached_through ps_reached_through) (M_House_colours : Meth K C_House "colours" f_House_colours) (d_House_colours_1 : Dfl K cl fd_House_colours ps_House_colours 1 [] [] [0]) {f_InvalidHalls : Addr} {fd_InvalidHalls : FuncData} (Mx_InvalidHalls : XMk K "ValueError" "ValueError.__new__" C_InvalidHalls f_InvalidHalls) (Gx_InvalidHalls : FnOk P w K mg base (L2.CX P w) 1 f_InvalidHalls fd_InvalidHalls ["self", "halls"] (spXI C_InvalidHalls "halls" false)) (Bx_InvalidHalls : Binds K fd_InvalidHalls ["self", "halls"] []) {f_Unreachable : Addr} {fd_Unreachable : FuncData} (Mx_Unreachable : XMk K "RuntimeError" "RuntimeError.__new__" C_Unreachable f_Unreachable) (Gx_Unreachable : FnOk P w K mg base (L2.CX P w) 1 f_Unreachable fd_Unreachable ["self", "hall"] (spXI C_Unreachable "hall" true)) (Bx_Unreachable : Binds K fd_Unreachable ["self", "hall"] []) {f : Addr} {fd : FuncData} (F : FunX K "__init__" "House.__init__" s_House___init__ f fd) : FnG P w K mg base (L2.CX P w) 4 f fd ps_House___init__ (spM K cl 3 L02.m_House___init__) :=
  fn_okX (pn := L02.pn_House___init__) F sc_House___init__ 3 5 rfl rfl fun cdv A outer s H E hr =>
    (ess_cons (es_if (et_not (et_val (ee_cal G_is_integer hr (el_val (ee_var 1) (el_val ee_int (el_val (ee_gI T.c_MOST_HALLS) el_nil))) (gLen_val (gLen_val (gLen_val gLen_nil)))))) (ess_one (es_raise xbas_V Mx_InvalidHalls Gx_InvalidHalls hr Bx_InvalidHalls T.m_InvalidHalls T.cx_InvalidHalls (ee_var 1))) ess_nil) (ess_cons (es_fld 0 T.f_ends (ee_cal G_ends_of hr (el_val (ee_var 1) (el_val (ee_var 2) el_nil)) (gLen_val (gLen_val gLen_nil)))) (ess_cons (es_fld 0 T.f_halls (ee_var 1)) (ess_cons (es_fld 0 T.f_doors (ee_var 2)) (ess_one (es_for (passes_of rfl) rfl (ei_enum T.z_enumerate (ee_add (ee_cal G_reached_through hr (el_val (ee_fld T.f_ends (ee_var 0)) (el_val (ee_methV0 T.cl_House T.k_House M_House_colours G_House_colours hr (ee_var 0) ekw_nil gLen_nil d_House_colours_1) el_nil)) (gLen_val (gLen_val gLen_nil))) (ee_lst (ea_cons (ee_var 1) ea_nil)))) (eg_tup rfl (egs_cons (eg_name 3 sc_House___init__.nd) (egs_cons (eg_name 4 sc_House___init__.nd) egs_nil))) (ess_one (es_if (et_gt (ee_var 4) (ee_var 3)) (ess_one (es_raise xbas_R Mx_Unreachable Gx_Unreachable hr Bx_Unreachable T.m_Unreachable T.cx_Unreachable (ee_var 3))) ess_nil))))))))
theorem sc_House___len__ : FnScope nm_House___len__ ps_House___len__ (defScope s_House___len__) := ⟨rfl, rfl, rfl, by decide +kernel, rfl, by decide +kernel, by decide +kernel⟩
theorem ok_House___len__ (T : Txt K mg cl C_House C_InvalidHalls C_InvalidDoors C_Unreachable) {f : Addr} {fd : FuncData} (F : Fun K "__len__" "House.__len__" s_House___len__ f fd) : FnG P w K mg base (L2.CX P w) 1 f fd ps_House___len__ (spM K cl 1 L02.m_House___len__) :=
  fn_ok (pn := L02.pn_House___len__) F sc_House___len__ 1 1 rfl rfl fun cdv A outer s H E hr =>
    (ess_one (es_ret (ee_lenRg T.z_len (er_1 T.z_range (ee_fld T.f_halls (ee_var 0))))))
theorem sc_House___repr__ : FnScope nm_House___repr__ ps_House___repr__ (defScope s_House___repr__) := ⟨rfl, rfl, rfl, by decide +kernel, rfl, by decide +kernel, by decide +kernel⟩
theorem ok_House___repr__ (T : Txt K mg cl C_House C_InvalidHalls C_InvalidDoors C_Unreachable) {f : Addr} {fd : FuncData} (F : Fun K "__repr__" "House.__repr__" s_House___repr__ f fd) : FnG P w K mg base (L2.CX P w) 1 f fd ps_House___repr__ (spM K cl 1 L02.m_House___repr__) :=
  fn_ok (pn := L02.pn_House___repr__) F sc_House___repr__ 1 1 rfl rfl fun cdv A outer s H E hr =>
    (ess_one (es_ret (ee_fs (EJ.cons ee_str (EJ.cons (ee_fmt (ee_fld T.f_halls (ee_var 0))) (EJ.cons ee_str (EJ.cons (ee_fmt (ee_bf call_lenA rs_len bt_len T.z_len (ek_cons (ee_fld T.f_doors (ee_var 0)) ek_nil))) (EJ.cons ee_str EJ.nil))))))))
theorem sc__law_right : FnScope nm__law_right ps__law_right (defScope s__law_right) := ⟨rfl, rfl, rfl, by decide +kernel, rfl, by decide +kernel, by decide +kernel⟩
theorem ok__law_right (T : Txt K mg cl C_House C_InvalidHalls C_InvalidDoors C_Unreachable) {f_House___init__ : Addr} {fd_House___init__ : FuncData} (G_House___init__ : CalF P w K mg base cl 4 3 L02.m_House___init__ f_House___init__ fd_House___init__ ps_House___init__) {f_House___len__ : Addr} {fd_House___len__ : FuncData} (G_House___len__ : CalF P w K mg base cl 1 1 L02.m_House___len__ f_House___len__ fd_House___len__ ps_House___len__) {f_House___repr__ : Addr} {fd_House___repr__ : FuncData} (G_House___repr__ : CalF P w K mg base cl 1 1 L02.m_House___repr__ f_House___repr__ fd_House___repr__ ps_House___repr__) {f_House_colours : Addr} {fd_House_colours : FuncData} (G_House_colours : CalF P w K mg base cl 1 1 L02.m_House_colours f_House_colours fd_House_colours ps_House_colours) (M_House_colours : Meth K C_House "colours" f_House_colours) (N_House : Mk K C_House f_House___init__) (S_House___len__ : PySem.W.findIn K (.ref C_House) "__len__" = some (some (.ref f_House___len__))) (I_House___len__ : PySem.W.isFn K (.ref f_House___len__) = true) (B_House___len__ : Binds K fd_House___len__ ps_House___len__ []) (S_House___repr__ : PySem.W.findIn K (.ref C_House) "__repr__" = some (some (.ref f_House___repr__))) (I_House___repr__ : PySem.W.isFn K (.ref f_House___repr__) = true) (B_House___repr__ : Binds K fd_House___repr__ ps_House___repr__ []) (NB_House : PySem.W.findIn K (.ref C_House) "__bool__" = some none) (d_House___init___1_doors_halls : Dfl K cl fd_House___init__ ps_House___init__ 1 ["doors", "halls"] [] [0, 2, 1]) (d_House___init___2_doors : Dfl K cl fd_House___init__ ps_House___init__ 2 ["doors"] [] [0, 1, 2]) (d_House___init___3 : Dfl K cl fd_House___init__ ps_House___init__ 3 [] [] [0, 1, 2]) (d_House_colours_1 : Dfl K cl fd_House_colours ps_House_colours 1 [] [] [0]) {f : Addr} {fd : FuncData} (F : Fun K "_law_right" "_law_right" s__law_right f fd) : FnG P w K mg base (L2.CX P w) 6 f fd ps__law_right (spM K cl 2 L02.m__law_right) :=
  fn_ok (pn := L02.pn__law_right) F sc__law_right 2 7 rfl rfl fun cdv A outer s H E hr =>
    (ess_cons (es_set 2 sc__law_right.nd (ee_add (ee_add (ee_add (ee_add ee_str (ee_bt call_strA rs_str bt_str T.z_str (ek_cons (ee_var 0) ek_nil))) ee_str) (ee_bt call_strA rs_str bt_str T.z_str (ek_cons (ee_bf call_lenA rs_len bt_len T.z_len (ek_cons (ee_var 1) ek_nil)) ek_nil))) ee_str)) (ess_cons (es_set 3 sc__law_right.nd (ee_bf (cr_repr hr) rs_repr bt_repr T.z_repr (ek_cons (ee_lst (ea_cons (ee_var 0) (ea_cons (ee_var 1) (ea_cons (ee_var 0) (ea_cons (ee_bt call_tuple_of rs_tuple bt_tuple T.z_tuple (ek_cons (ee_srtS hr.room bt_sorted T.z_sorted (est_set rfl bt_set T.z_set (ek_cons (ee_lc [("_law_gate", 4)] rfl sc__law_right.nd (ei_seq (ee_var 1)) (blkOk_by (N := nm__law_right) (sc := defScope s__law_right) (by decide +kernel)) (fun _ _ _ _ _ => (eg_name 4 sc__law_right.nd)) (fun _ _ _ _ _ => ets_nil) (fun _ _ _ _ _ => (ee_ix hr.room (ee_var 4) ee_int))) ek_nil))) ek_nil)) (ea_cons (ee_var 2) (ea_cons ee_bl ea_nil))))))) ek_nil))) (ess_cons (es_set 5 sc__law_right.nd (ee_makeD T.cl_House N_House T.m_House G_House___init__ hr (el_val (ee_var 0) (el_val (ee_var 1) el_nil)) ekw_nil (gLen_val (gLen_val gLen_nil)) gLen_nil d_House___init___3)) (ess_cons (es_for (passes_of rfl) rfl (ei_seq (ee_lst (ea_cons (ee_var 5) (ea_cons (ee_makeD0 T.cl_House N_House T.m_House G_House___init__ hr (ekw_val (ee_var 1) (ekw_val (ee_var 0) ekw_nil)) (gLen_val (gLen_val gLen_nil)) d_House___init___1_doors_halls) (ea_cons (ee_makeD T.cl_House N_House T.m_House G_House___init__ hr (el_val (ee_fld T.f_halls (ee_var 5)) el_nil) (ekw_val (ee_fld T.f_doors (ee_var 5)) ekw_nil) (gLen_val gLen_nil) (gLen_val gLen_nil) d_House___init___2_doors) (ea_cons (ee_var 5) ea_nil)))))) (eg_name 6 sc__law_right.nd) (ess_one (es_if (et_ne hr.room (ee_bf (cr_repr hr) rs_repr bt_repr T.z_repr (ek_cons (ee_lst (ea_cons (ee_fld T.f_halls (ee_var 6)) (ea_cons (ee_fld T.f_doors (ee_var 6)) (ea_cons (ee_lenI T.cl_House S_House___len__ I_House___len__ G_House___len__ hr B_House___len__ T.z_len (ee_var 6)) (ea_cons (ee_methV0 T.cl_House T.k_House M_House_colours G_House_colours hr (ee_var 6) ekw_nil gLen_nil d_House_colours_1) (ea_cons (ee_repI T.cl_House S_House___repr__ I_House___repr__ G_House___repr__ hr B_House___repr__ T.z_repr (ee_var 6)) (ea_cons (ee_booI T.cl_House S_House___len__ I_House___len__ NB_House G_House___len__ hr B_House___len__ T.z_bool (ee_var 6)) ea_nil))))))) ek_nil)) (ee_var 3)) (ess_one (es_ret ee_bl)) ess_nil))) (ess_one (es_ret ee_bl))))))
theorem sc__law_fixed_right : FnScope nm__law_fixed_right ps__law_fixed_right (defScope s__law_fixed_right) := ⟨rfl, rfl, rfl, by decide +kernel, rfl, by decide +kernel, by decide +kernel⟩
theorem ok__law_fixed_right (T : Txt K mg cl C_House C_InvalidHalls C_InvalidDoors C_Unreachable) {f_House___init__ : Addr} {fd_House___init__ : FuncData} (G_House___init__ : CalF P w K mg base cl 4 3 L02.m_House___init__ f_House___init__ fd_House___init__ ps_House___init__) {f_House___len__ : Addr} {fd_House___len__ : FuncData} (G_House___len__ : CalF P w K mg base cl 1 1 L02.m_House___len__ f_House___len__ fd_House___len__ ps_House___len__) {f_House_colours : Addr} {fd_House_colours : FuncData} (G_House_colours : CalF P w K mg base cl 1 1 L02.m_House_colours f_House_colours fd_House_colours ps_House_colours) {f__law_cube : Addr} {fd__law_cube : FuncData} (G__law_cube : Cal P w K mg base cl "_law_cube" 1 0 L02.m__law_cube f__law_cube fd__law_cube ps__law_cube) {f__law_right : Addr} {fd__law_right : FuncData} (G__law_right : Cal P w K mg base cl "_law_right" 6 2 L02.m__law_right f__law_right fd__law_right ps__law_right) (M_House_colours : Meth K C_House "colours" f_House_colours) (N_House : Mk K C_House f_House___init__) (S_House___len__ : PySem.W.findIn K (.ref C_House) "__len__" = some (some (.ref f_House___len__))) (I_House___len__ : PySem.W.isFn K (.ref f_House___len__) = true) (B_House___len__ : Binds K fd_House___len__ ps_House___len__ []) (d_House___init___1_halls_D : Dfl K cl fd_House___init__ ps_House___init__ 1 ["halls"] [.tup []] [0, 1, 2]) (d_House___init___2_D : Dfl K cl fd_House___init__ ps_House___init__ 2 [] [.tup []] [0, 1, 2]) (d_House_colours_1 : Dfl K cl fd_House_colours ps_House_colours 1 [] [] [0]) {f : Addr} {fd : FuncData} (F : Fun K "_law_fixed_right" "_law_fixed_right" s__law_fixed_right f fd) : FnG P w K mg base (L2.CX P w) 7 f fd ps__law_fixed_right (spM K cl 0 L02.m__law_fixed_right) :=
  fn_ok (pn := L02.pn__law_fixed_right) F sc__law_fixed_right 0 8 rfl rfl fun cdv A outer s H E hr =>
    (ess_cons (es_set 0 sc__law_fixed_right.nd (ee_bt call_tuple_of rs_tuple bt_tuple T.z_tuple (ek_cons (ee_lc [("_law_spot", 1)] rfl sc__law_fixed_right.nd (ei_rng1 T.z_range ee_int) (blkOk_by (N := nm__law_fixed_right) (sc := defScope s__law_fixed_right) (by decide +kernel)) (fun _ _ _ _ _ => (eg_name 1 sc__law_fixed_right.nd)) (fun _ _ _ _ _ => ets_nil) (fun _ _ _ _ _ => (ee_tup (ea_cons (ee_var 1) (ea_cons (ee_add (ee_var 1) ee_int) (ea_cons (ee_ix hr.room ee_str (ee_mod (ee_var 1) ee_int)) ea_nil)))))) ek_nil))) (ess_cons (es_set 2 sc__law_fixed_right.nd (ee_bt call_tuple_of rs_tuple bt_tuple T.z_tuple (ek_cons (ee_lc [("_law_k", 3)] rfl sc__law_fixed_right.nd (ei_rng1 T.z_range ee_int) (blkOk_by (N := nm__law_fixed_right) (sc := defScope s__law_fixed_right) (by decide +kernel)) (fun _ _ _ _ _ => (eg_name 3 sc__law_fixed_right.nd)) (fun _ _ _ _ _ => ets_nil) (fun _ _ _ _ _ => (ee_tup (ea_cons ee_int (ea_cons (ee_add (ee_var 3) ee_int) (ea_cons (ee_ix hr.room ee_str (ee_var 3)) ea_nil)))))) ek_nil))) (ess_cons (es_set 4 sc__law_fixed_right.nd (ee_lst (ea_cons (ee_tup (ea_cons ee_int (ea_cons (ee_tup ea_nil) ea_nil))) (ea_cons (ee_tup (ea_cons ee_int (ea_cons (ee_tup (ea_cons (ee_tup (ea_cons ee_int (ea_cons ee_int (ea_cons ee_str ea_nil)))) ea_nil)) ea_nil))) (ea_cons (ee_tup (ea_cons ee_int (ea_cons (ee_tup (ea_cons (ee_tup (ea_cons ee_int (ea_cons ee_int (ea_cons ee_str ea_nil)))) (ea_cons (ee_tup (ea_cons ee_int (ea_cons ee_int (ea_cons ee_str ea_nil)))) ea_nil))) ea_nil))) (ea_cons (ee_tup (ea_cons ee_int (ea_cons (ee_var 0) ea_nil))) ea_nil)))))) (ess_cons (es_expr (ee_append 4 (ea_cons (ee_tup (ea_cons ee_int (ea_cons (ee_tup (ea_cons (ee_tup (ea_cons ee_int (ea_cons ee_int (ea_cons ee_str ea_nil)))) (ea_cons (ee_tup (ea_cons ee_int (ea_cons ee_int (ea_cons ee_str ea_nil)))) (ea_cons (ee_tup (ea_cons ee_int (ea_cons ee_int (ea_cons ee_str ea_nil)))) ea_nil)))) ea_nil))) ea_nil))) (ess_cons (es_set 4 sc__law_fixed_right.nd (ee_add (ee_var 4) (ee_lst (ea_cons (ee_tup (ea_cons ee_int (ea_cons (ee_cal0 G__law_cube hr) ea_nil))) (ea_cons (ee_tup (ea_cons ee_int (ea_cons (ee_var 2) ea_nil))) (ea_cons (ee_tup (ea_cons ee_int (ea_cons (ee_bt call_tuple_of rs_tuple bt_tuple T.z_tuple (ek_cons (ee_lc [("_law_word", 5)] rfl sc__law_fixed_right.nd (ei_seq ee_str) (blkOk_by (N := nm__law_fixed_right) (sc := defScope s__law_fixed_right) (by decide +kernel)) (fun _ _ _ _ _ => (eg_name 5 sc__law_fixed_right.nd)) (fun _ _ _ _ _ => ets_nil) (fun _ _ _ _ _ => (ee_tup (ea_cons ee_int (ea_cons ee_int (ea_cons (ee_var 5) ea_nil)))))) ek_nil)) ea_nil))) ea_nil)))))) (ess_cons (es_for (passes_of rfl) rfl (ei_seq (ee_var 4)) (eg_tup rfl (egs_cons (eg_name 6 sc__law_fixed_right.nd) (egs_cons (eg_name 7 sc__law_fixed_right.nd) egs_nil))) (ess_one (es_if (et_not (et_val (ee_cal G__law_right hr (el_val (ee_var 6) (el_val (ee_var 7) el_nil)) (gLen_val (gLen_val gLen_nil))))) (ess_one (es_ret ee_bl)) ess_nil))) (ess_one (es_ret (ee_eq hr.room (ee_bf (cr_repr hr) rs_repr bt_repr T.z_repr (ek_cons (ee_lst (ea_cons (ee_fld T.f_doors (ee_makeD T.cl_House N_House T.m_House G_House___init__ hr (el_val ee_int el_nil) ekw_nil (gLen_val gLen_nil) gLen_nil d_House___init___2_D)) (ea_cons (ee_fld T.f_doors (ee_makeD0 T.cl_House N_House T.m_House G_House___init__ hr (ekw_val ee_int ekw_nil) (gLen_val gLen_nil) d_House___init___1_halls_D)) (ea_cons (ee_methV0 T.cl_House T.k_House M_House_colours G_House_colours hr (ee_makeD T.cl_House N_House T.m_House G_House___init__ hr (el_val ee_int el_nil) ekw_nil (gLen_val gLen_nil) gLen_nil d_House___init___2_D) ekw_nil gLen_nil d_House_colours_1) (ea_cons (ee_lenI T.cl_House S_House___len__ I_House___len__ G_House___len__ hr B_House___len__ T.z_len (ee_makeD T.cl_House N_House T.m_House G_House___init__ hr (el_val ee_int el_nil) ekw_nil (gLen_val gLen_nil) gLen_nil d_House___init___2_D)) ea_nil))))) ek_nil)) (ee_bf (cr_repr hr) rs_repr bt_repr T.z_repr (ek_cons (ee_lst (ea_cons (ee_tup ea_nil) (ea_cons (ee_tup ea_nil) (ea_cons (ee_tup ea_nil) (ea_cons ee_int ea_nil))))) ek_nil)))))))))))
theorem sc__law_purse : FnScope nm__law_purse ps__law_purse (defScope s__law_purse) := ⟨rfl, rfl, rfl, by decide +kernel, rfl, by decide +kernel, by decide +kernel⟩
theorem ok__law_purse (T : Txt K mg cl C_House C_InvalidHalls C_InvalidDoors C_Unreachable) {f : Addr} {fd : FuncData} (F : Fun K "_law_purse" "_law_purse" s__law_purse f fd) : FnG P w K mg base (L2.CX P w) 1 f fd ps__law_purse (spM K cl 2 L02.m__law_purse) :=
  fn_ok (pn := L02.pn__law_purse) F sc__law_purse 2 3 rfl rfl fun cdv A outer s H E hr =>
    (ess_cons (es_set 2 sc__law_purse.nd (ee_ix hr.room (ee_add (ee_sl (ee_var 0) (ep_some (ee_var 1)) (ep_some (ee_add (ee_var 1) ee_int))) (ee_lst (ea_cons ee_int ea_nil))) ee_int)) (ess_cons (es_if (EW.et (ew_or (et_ge (ee_var 2) (ee_pow ee_int ee_int)) (ew_or1 (et_lt (ee_var 2) ee_int)))) (ess_one (es_ret (ee_lst (ea_cons (ee_bf (call_max2 rfl) rs_max bt_max T.z_max (ek_cons (ee_var 2) (ek_cons (ee_sub (ee_neg ee_int) (ee_var 2)) ek_nil))) (ea_cons ee_int ea_nil))))) ess_nil) (ess_one (es_ret (ee_lst (ea_cons ee_int (ea_cons (ee_add ee_int (ee_mod (ee_add (ee_mulB (ee_var 2) ee_int) (ee_mulB (ee_mulB (ee_add (ee_var 1) ee_int) ee_int) (ee_add (ee_var 1) ee_int))) ee_int)) ea_nil)))))))
theorem sc__law_draw : FnScope nm__law_draw ps__law_draw (defScope s__law_draw) := ⟨rfl, rfl, rfl, by decide +kernel, rfl, by decide +kernel, by decide +kernel⟩
theorem ok__law_draw (T : Txt K mg cl C_House C_InvalidHalls C_InvalidDoors C_Unreachable) {f : Addr} {fd : FuncData} (F : Fun K "_law_draw" "_law_draw" s__law_draw f fd) : FnG P w K mg base (L2.CX P w) 1 f fd ps__law_draw (spM K cl 2 L02.m__law_draw) :=
  fn_ok (pn := L02.pn__law_draw) F sc__law_draw 2 3 rfl rfl fun cdv A outer s H E hr =>
    (ess_cons (es_if (et_eq hr.room (ee_ix hr.room (ee_var 0) ee_int) ee_int) (ess_cons (es_set 2 sc__law_draw.nd (ee_mod (ee_ix hr.room (ee_var 0) ee_int) (ee_var 1))) (ess_cons (es_asg (ee_fdiv (ee_ix hr.room (ee_var 0) ee_int) (ee_var 1)) (eg_ix 0 hr.room ee_int)) (ess_one (es_ret (ee_var 2))))) ess_nil) (ess_cons (es_asg (ee_add ee_int (ee_mod (ee_add (ee_mulB (ee_ix hr.room (ee_var 0) ee_int) ee_int) ee_int) ee_int)) (eg_ix 0 hr.room ee_int)) (ess_one (es_ret (ee_mod (ee_fdiv (ee_mod (ee_mulB (ee_ix hr.room (ee_var 0) ee_int) ee_int) ee_int) ee_int) (ee_var 1))))))
theorem sc__law_words : FnScope nm__law_words ps__law_words (defScope s__law_words) := ⟨rfl, rfl, rfl, by decide +kernel, rfl, by decide +kernel, by decide +kernel⟩
theorem ok__law_words (T : Txt K mg cl C_House C_InvalidHalls C_InvalidDoors C_Unreachable) {f__law_draw : Addr} {fd__law_draw : FuncData} (G__law_draw : Cal P w K mg base cl "_law_draw" 1 2 L02.m__law_draw f__law_draw fd__law_draw ps__law_draw) {f : Addr} {fd : FuncData} (F : Fun K "_law_words" "_law_words" s__law_words f fd) : FnG P w K mg base (L2.CX P w) 2 f fd ps__law_words (spM K cl 2 L02.m__law_words) :=
  fn_ok (pn := L02.pn__law_words) F sc__law_words 2 10 rfl rfl fun cdv A outer s H E hr =>
    (ess_cons (es_set 2 sc__law_words.nd ee_str) (ess_cons (es_set 3 sc__law_words.nd (ee_lst (ea_cons ee_str (ea_cons ee_str (ea_cons ee_str (ea_cons ee_str (ea_cons ee_str (ea_cons ee_str (ea_cons ee_str (ea_cons ee_str (ea_cons ee_str (ea_cons ee_str (ea_cons ee_str (ea_cons ee_str (ea_cons ee_str (ea_cons ee_str (ea_cons ee_str (ea_cons ee_str ea_nil)))))))))))))))))) (ess_cons (es_mul rfl (em_cons (ee_cal G__law_draw hr (el_io 0 (el_val ee_int el_nil)) (gLen_io (gLen_val gLen_nil))) (em_cons (ee_cal G__law_draw hr (el_io 0 (el_val ee_int el_nil)) (gLen_io (gLen_val gLen_nil))) em_nil)) (en_cons 4 sc__law_words.nd (en_cons 5 sc__law_words.nd en_nil))) (ess_cons (es_if (et_eq hr.room (ee_var 5) ee_int) (ess_one (es_ret (ee_lc [("_law_k", 6)] rfl sc__law_words.nd (ei_rng1 T.z_range (ee_var 1)) (blkOk_by (N := nm__law_words) (sc := defScope s__law_words) (by decide +kernel)) (fun _ _ _ _ _ => (eg_name 6 sc__law_words.nd)) (fun _ _ _ _ _ => ets_nil) (fun _ _ _ _ _ => (ee_ix hr.room (ee_var 3) (ee_mod (ee_add (ee_var 4) (ee_mulB ee_int (ee_var 6))) ee_int)))))) ess_nil) (ess_cons (es_set 7 sc__law_words.nd (ee_join ee_str (ek_cons (ee_lc [("_law_k", 6)] rfl sc__law_words.nd (ei_rng1 T.z_range (ee_cal G__law_draw hr (el_io 0 (el_val ee_int el_nil)) (gLen_io (gLen_val gLen_nil)))) (blkOk_by (N := nm__law_words) (sc := defScope s__law_words) (by decide +kernel)) (fun _ _ _ _ _ => (eg_name 6 sc__law_words.nd)) (fun _ _ _ _ _ => ets_nil) (fun _ _ _ _ _ => (ee_ix hr.room (ee_var 2) (ee_cal G__law_draw hr (el_io 0 (el_val ee_int el_nil)) (gLen_io (gLen_val gLen_nil)))))) ek_nil))) (ess_cons (es_mul rfl (em_cons (ee_cal G__law_draw hr (el_io 0 (el_val (ee_add (ee_bf call_lenA rs_len bt_len T.z_len (ek_cons (ee_var 7) ek_nil)) ee_int) el_nil)) (gLen_io (gLen_val gLen_nil))) (em_cons (ee_cal G__law_draw hr (el_io 0 (el_val ee_int el_nil)) (gLen_io (gLen_val gLen_nil))) em_nil)) (en_cons 8 sc__law_words.nd (en_cons 9 sc__law_words.nd en_nil))) (ess_one (es_ret (ee_lc [("_law_k", 6)] rfl sc__law_words.nd (ei_rng1 T.z_range (ee_var 1)) (blkOk_by (N := nm__law_words) (sc := defScope s__law_words) (by decide +kernel)) (fun _ _ _ _ _ => (eg_name 6 sc__law_words.nd)) (fun _ _ _ _ _ => ets_nil) (fun _ _ _ _ _ => (ee_add (ee_add (ee_sl (ee_var 7) ep_none (ep_some (ee_var 8))) (ee_ix hr.room (ee_var 2) (ee_mod (ee_add (ee_var 9) (ee_mulB ee_int (ee_var 6))) ee_int))) (ee_sl (ee_var 7) (ep_some (ee_var 8)) ep_none))))))))))))
theorem sc__law_grown : FnScope nm__law_grown ps__law_grown (defScope s__law_grown) := ⟨rfl, rfl, rfl, by decide +kernel, rfl, by decide +kernel, by decide +kernel⟩
theorem ok__law_grown (T : Txt K mg cl C_House C_InvalidHalls C_InvalidDoors C_Unreachable) {f__law_draw : Addr} {fd__law_draw : FuncData} (G__law_draw : Cal P w K mg base cl "_law_draw" 1 2 L02.m__law_draw f__law_draw fd__law_draw ps__law_draw) {f : Addr} {fd : FuncData} (F : Fun K "_law_grown" "_law_grown" s__law_grown f fd) : FnG P w K mg base (L2.CX P w) 2 f fd ps__law_grown (spM K cl 3 L02.m__law_grown) :=
  fn_ok (pn := L02.pn__law_grown) F sc__law_grown 3 11 rfl rfl fun cdv A outer s H E hr =>
    (ess_cons (es_mul rfl (em_cons ee_newT (em_cons ee_int em_nil)) (en_cons 3 sc__law_grown.nd (en_cons 4 sc__law_grown.nd en_nil))) (ess_cons (es_for (passes_of rfl) rfl (ei_rng1 T.z_range (ee_cal G__law_draw hr (el_io 0 (el_val (ee_var 1) el_nil)) (gLen_io (gLen_val gLen_nil)))) (eg_name 5 sc__law_grown.nd) (ess_cons (es_set 6 sc__law_grown.nd (ee_lst ea_nil)) (ess_cons (es_for (passes_of rfl) rfl (ei_rng1 T.z_range (ee_var 4)) (eg_name 7 sc__law_grown.nd) (ess_one (es_expr (ee_extend 6 (ea_cons (ee_lc [("_law_word", 8)] rfl sc__law_grown.nd (ei_seq (ee_var 2)) (blkOk_by (N := nm__law_grown) (sc := defScope s__law_grown) (by decide +kernel)) (fun _ _ _ _ _ => (eg_name 8 sc__law_grown.nd)) (fun _ _ _ _ _ => (ets_one (et_notIn hr.room (ee_tup (ea_cons (ee_var 7) (ea_cons (ee_var 8) ea_nil))) (ee_var 3)))) (fun _ _ _ _ _ => (ee_tup (ea_cons (ee_var 7) (ea_cons (ee_var 8) ea_nil))))) ea_nil))))) (ess_one (es_if (et_ne hr.room (ee_var 6) (ee_lst ea_nil)) (ess_cons (es_asg (ee_ix hr.room (ee_var 6) (ee_cal G__law_draw hr (el_io 0 (el_val (ee_bf call_lenA rs_len bt_len T.z_len (ek_cons (ee_var 6) ek_nil)) el_nil)) (gLen_io (gLen_val gLen_nil)))) (eg_tup rfl (egs_cons (eg_name 7 sc__law_grown.nd) (egs_cons (eg_name 8 sc__law_grown.nd) egs_nil)))) (ess_cons (es_asg (ee_var 4) (eg_ix 3 hr.room (ee_tup (ea_cons (ee_var 7) (ea_cons (ee_var 8) ea_nil))))) (ess_cons (es_asg (ee_var 7) (eg_ix 3 hr.room (ee_tup (ea_cons (ee_var 4) (ea_cons (ee_var 8) ea_nil))))) (ess_one (es_set 4 sc__law_grown.nd (ee_add (ee_var 4) ee_int)))))) ess_nil))))) (ess_cons (es_for (passes_of rfl) rfl (ei_rng1 T.z_range (ee_cal G__law_draw hr (el_io 0 (el_val (ee_add ee_int (ee_var 4)) el_nil)) (gLen_io (gLen_val gLen_nil)))) (eg_name 5 sc__law_grown.nd) (ess_cons (es_par3 9 10 8 rfl sc__law_grown.nd (em_cons (ee_cal G__law_draw hr (el_io 0 (el_val (ee_var 4) el_nil)) (gLen_io (gLen_val gLen_nil))) (em_cons (ee_cal G__law_draw hr (el_io 0 (el_val (ee_var 4) el_nil)) (gLen_io (gLen_val gLen_nil))) (em_cons (ee_ix hr.room (ee_var 2) (ee_cal G__law_draw hr (el_io 0 (el_val (ee_bf call_lenA rs_len bt_len T.z_len (ek_cons (ee_var 2) ek_nil)) el_nil)) (gLen_io (gLen_val gLen_nil)))) em_nil)))) (ess_one (es_if (EW.et (ew_and (et_ne hr.room (ee_var 9) (ee_var 10)) (ew_and (et_notIn hr.room (ee_tup (ea_cons (ee_var 9) (ea_cons (ee_var 8) ea_nil))) (ee_var 3)) (ew_and1 (et_notIn hr.room (ee_tup (ea_cons (ee_var 10) (ea_cons (ee_var 8) ea_nil))) (ee_var 3)))))) (ess_cons (es_asg (ee_var 10) (eg_ix 3 hr.room (ee_tup (ea_cons (ee_var 9) (ea_cons (ee_var 8) ea_nil))))) (ess_one (es_asg (ee_var 9) (eg_ix 3 hr.room (ee_tup (ea_cons (ee_var 10) (ea_cons (ee_var 8) ea_nil))))))) ess_nil)))) (ess_one (es_ret (ee_tup (ea_cons (ee_var 4) (ea_cons (ee_var 3) ea_nil))))))))
theorem sc__law_doors : FnScope nm__law_doors ps__law_doors (defScope s__law_doors) := ⟨rfl, rfl, rfl, by decide +kernel, rfl, by decide +kernel, by decide +kernel⟩
theorem ok__law_doors (T : Txt K mg cl C_House C_InvalidHalls C_InvalidDoors C_Unreachable) {f : Addr} {fd : FuncData} (F : Fun K "_law_doors" "_law_doors" s__law_doors f fd) : FnG P w K mg base (L2.CX P w) 1 f fd ps__law_doors (spM K cl 1 L02.m__law_doors) :=
  fn_ok (pn := L02.pn__law_doors) F sc__law_doors 1 3 rfl rfl fun cdv A outer s H E hr =>
    (ess_one (es_ret (ee_bt call_tuple_of rs_tuple bt_tuple T.z_tuple (ek_cons (ee_bf (cr_sortD hr.room) rs_sorted bt_sorted T.z_sorted (ek_cons (ee_lcK 0 [("_law_spot", 1), ("_law_word", 2)] rfl sc__law_doors.nd (blkOk_by (N := nm__law_doors) (sc := defScope s__law_doors) (by decide +kernel)) (fun _ _ _ _ _ => (eg_tup rfl (egs_cons (eg_name 1 sc__law_doors.nd) (egs_cons (eg_name 2 sc__law_doors.nd) egs_nil)))) (fun _ _ _ _ _ => (ets_one (et_lt (ee_var 1) (ee_ix hr.room (ee_var 0) (ee_tup (ea_cons (ee_var 1) (ea_cons (ee_var 2) ea_nil))))))) (fun _ _ _ _ _ => (ee_tup (ea_cons (ee_var 1) (ea_cons (ee_ix hr.room (ee_var 0) (ee_tup (ea_cons (ee_var 1) (ea_cons (ee_var 2) ea_nil)))) (ea_cons (ee_var 2) ea_nil)))))) ek_nil)) ek_nil))))
theorem sc__law_drawn : FnScope nm__law_drawn ps__law_drawn (defScope s__law_drawn) := ⟨rfl, rfl, rfl, by decide +kernel, rfl, by decide +kernel, by decide +kernel⟩
theorem ok__law_drawn (T : Txt K mg cl C_House C_InvalidHalls C_InvalidDoors C_Unreachable) {f__law_doors : Addr} {fd__law_doors : FuncData} (G__law_doors : Cal P w K mg base cl "_law_doors" 1 1 L02.m__law_doors f__law_doors fd__law_doors ps__law_doors) {f__law_draw : Addr} {fd__law_draw : FuncData} (G__law_draw : Cal P w K mg base cl "_law_draw" 1 2 L02.m__law_draw f__law_draw fd__law_draw ps__law_draw) {f__law_grown : Addr} {fd__law_grown : FuncData} (G__law_grown : Cal P w K mg base cl "_law_grown" 2 3 L02.m__law_grown f__law_grown fd__law_grown ps__law_grown) {f__law_words : Addr} {fd__law_words : FuncData} (G__law_words : Cal P w K mg base cl "_law_words" 2 2 L02.m__law_words f__law_words fd__law_words ps__law_words) {f : Addr} {fd : FuncData} (F : Fun K "_law_drawn" "_law_drawn" s__law_drawn f fd) : FnG P w K mg base (L2.CX P w) 3 f fd ps__law_drawn (spM K cl 1 L02.m__law_drawn) :=
  fn_ok (pn := L02.pn__law_drawn) F sc__law_drawn 1 5 rfl rfl fun cdv A outer s H E hr =>
    (ess_cons (es_set 1 sc__law_drawn.nd (ee_bt call_int1 rs_int bt_int T.z_int (ek_cons (ee_eq hr.room (ee_cal G__law_draw hr (el_io 0 (el_val ee_int el_nil)) (gLen_io (gLen_val gLen_nil))) ee_int) ek_nil))) (ess_cons (es_set 2 sc__law_drawn.nd (ee_cal G__law_words hr (el_io 0 (el_val (ee_add ee_int (ee_cal G__law_draw hr (el_io 0 (el_val (ee_ix hr.room (ee_lst (ea_cons ee_int (ea_cons ee_int ea_nil))) (ee_var 1)) el_nil)) (gLen_io (gLen_val gLen_nil)))) el_nil)) (gLen_io (gLen_val gLen_nil)))) (ess_cons (es_asg (ee_cal G__law_grown hr (el_io 0 (el_val (ee_ix hr.room (ee_lst (ea_cons ee_int (ea_cons ee_int ea_nil))) (ee_var 1)) (el_val (ee_var 2) el_nil))) (gLen_io (gLen_val (gLen_val gLen_nil)))) (eg_tup rfl (egs_cons (eg_name 3 sc__law_drawn.nd) (egs_cons (eg_name 4 sc__law_drawn.nd) egs_nil)))) (ess_one (es_ret (ee_tup (ea_cons (ee_var 3) (ea_cons (ee_cal G__law_doors hr (el_val (ee_var 4) el_nil) (gLen_val gLen_nil)) ea_nil))))))))
theorem sc_law : FnScope nm_law ps_law (defScope s_law) := ⟨rfl, rfl, rfl, by decide +kernel, rfl, by decide +kernel, by decide +kernel⟩
theorem ok_law (T : Txt K mg cl C_House C_InvalidHalls C_InvalidDoors C_Unreachable) {f__law_drawn : Addr} {fd__law_drawn : FuncData} (G__law_drawn : Cal P w K mg base cl "_law_drawn" 3 1 L02.m__law_drawn f__law_drawn fd__law_drawn ps__law_drawn) {f__law_fixed_right : Addr} {fd__law_fixed_right : FuncData} (G__law_fixed_right : Cal P w K mg base cl "_law_fixed_right" 7 0 L02.m__law_fixed_right f__law_fixed_right fd__law_fixed_right ps__law_fixed_right) {f__law_purse : Addr} {fd__law_purse : FuncData} (G__law_purse : Cal P w K mg base cl "_law_purse" 1 2 L02.m__law_purse f__law_purse fd__law_purse ps__law_purse) {f__law_right : Addr} {fd__law_right : FuncData} (G__law_right : Cal P w K mg base cl "_law_right" 6 2 L02.m__law_right f__law_right fd__law_right ps__law_right) {f : Addr} {fd : FuncData} (F : Fun K "law" "law" s_law f fd) : FnG P w K mg base (L2.CX P w) 8 f fd ps_law (spM K cl 1 L02.m_law) :=
  fn_ok (pn := L02.pn_law) F sc_law 1 6 rfl rfl fun cdv A outer s H E hr =>
    (ess_cons (es_if (et_not (et_val (ee_cal0 G__law_fixed_right hr))) (ess_one (es_ret ee_bl)) ess_nil) (ess_cons (es_for (passes_of rfl) rfl (ei_rng1 T.z_range (ee_bf (call_max2 rfl) rs_max bt_max T.z_max (ek_cons ee_int (ek_cons (ee_bf (call_min2 rfl) rs_min bt_min T.z_min (ek_cons (ee_bf call_lenA rs_len bt_len T.z_len (ek_cons (ee_var 0) ek_nil)) (ek_cons ee_int ek_nil))) ek_nil)))) (eg_name 1 sc_law.nd) (ess_cons (es_set 2 sc_law.nd (ee_cal G__law_purse hr (el_val (ee_var 0) (el_val (ee_var 1) el_nil)) (gLen_val (gLen_val gLen_nil)))) (ess_one (es_for (passes_of rfl) rfl (ei_rng1 T.z_range ee_int) (eg_name 3 sc_law.nd) (ess_cons (es_asg (ee_cal G__law_drawn hr (el_io 2 el_nil) (gLen_io gLen_nil)) (eg_tup rfl (egs_cons (eg_name 4 sc_law.nd) (egs_cons (eg_name 5 sc_law.nd) egs_nil)))) (ess_one (es_if (et_not (et_val (ee_cal G__law_right hr (el_val (ee_var 4) (el_val (ee_var 5) el_nil)) (gLen_val (gLen_val gLen_nil))))) (ess_one (es_ret ee_bl)) ess_nil))))))) (ess_one (es_ret ee_bl))))
end
theorem all_mk {P : Program} {w : World} {K : PySem.W.Frag} {h : Heap} {mg : Str → Option Value} {fa : Addr} (X : K.In h) (G : h.Ns mainGlobals mg) (hfa : mg "law" = some (.ref fa)) (good : Keeps L02.m_law)
    {t_LETTERS : Tok}
    {t_MOST_COLOURS : Tok}
    {t_MOST_HALLS : Tok}
    {C_House : Addr}
    {C_InvalidInput : Addr}
    {C_StateError : Addr}
    {C_InvalidHalls f_InvalidHalls N_InvalidHalls : Addr} {nm_InvalidHalls q_InvalidHalls : Str} {bs_InvalidHalls sub_InvalidHalls : List Value} {sn_InvalidHalls : List Str} {ab_InvalidHalls : Bool} {col_InvalidHalls : Option Bool} {dd_InvalidHalls : Option Addr} {k0_InvalidHalls k1_InvalidHalls k2_InvalidHalls k3_InvalidHalls k5_InvalidHalls : Option Value} {od_InvalidHalls an_InvalidHalls : Option Addr} {sl_InvalidHalls : Array (Option Value)} {oc_InvalidHalls kV_InvalidHalls dc_InvalidHalls pm_InvalidHalls cd_InvalidHalls ct_InvalidHalls : Value}
    {C_InvalidDoors f_InvalidDoors N_InvalidDoors : Addr} {nm_InvalidDoors q_InvalidDoors : Str} {bs_InvalidDoors sub_InvalidDoors : List Value} {sn_InvalidDoors : List Str} {ab_InvalidDoors : Bool} {col_InvalidDoors : Option Bool} {dd_InvalidDoors : Option Addr} {k0_InvalidDoors k1_InvalidDoors k2_InvalidDoors k3_InvalidDoors k5_InvalidDoors : Option Value} {od_InvalidDoors an_InvalidDoors : Option Addr} {sl_InvalidDoors : Array (Option Value)} {oc_InvalidDoors kV_InvalidDoors dc_InvalidDoors pm_InvalidDoors cd_InvalidDoors ct_InvalidDoors : Value}
    {C_Unreachable f_Unreachable N_Unreachable : Addr} {nm_Unreachable q_Unreachable : Str} {bs_Unreachable sub_Unreachable : List Value} {sn_Unreachable : List Str} {ab_Unreachable : Bool} {col_Unreachable : Option Bool} {dd_Unreachable : Option Addr} {k0_Unreachable k1_Unreachable k2_Unreachable k3_Unreachable k5_Unreachable : Option Value} {od_Unreachable an_Unreachable : Option Addr} {sl_Unreachable : Array (Option Value)} {oc_Unreachable kV_Unreachable dc_Unreachable pm_Unreachable cd_Unreachable ct_Unreachable : Value}
    {f__law_cube : Addr} {od__law_cube an__law_cube : Option Addr} {sl__law_cube : Array (Option Value)} {oc__law_cube kV__law_cube dc__law_cube pm__law_cube cd__law_cube ct__law_cube : Value}
    {f_is_integer : Addr} {od_is_integer an_is_integer : Option Addr} {sl_is_integer : Array (Option Value)} {oc_is_integer kV_is_integer dc_is_integer pm_is_integer cd_is_integer ct_is_integer : Value}
    {f_is_colour : Addr} {od_is_colour an_is_colour : Option Addr} {sl_is_colour : Array (Option Value)} {oc_is_colour kV_is_colour dc_is_colour pm_is_colour cd_is_colour ct_is_colour : Value}
    {f_is_door : Addr} {od_is_door an_is_door : Option Addr} {sl_is_door : Array (Option Value)} {oc_is_door kV_is_door dc_is_door pm_is_door cd_is_door ct_is_door : Value}
    {f_ends_of : Addr} {od_ends_of an_ends_of : Option Addr} {sl_ends_of : Array (Option Value)} {oc_ends_of kV_ends_of dc_ends_of pm_ends_of cd_ends_of ct_ends_of : Value}
    {f_reached_through : Addr} {od_reached_through an_reached_through : Option Addr} {sl_reached_through : Array (Option Value)} {oc_reached_through kV_reached_through dc_reached_through pm_reached_through cd_reached_through ct_reached_through : Value}
    {f_House_colours : Addr} {od_House_colours an_House_colours : Option Addr} {sl_House_colours : Array (Option Value)} {oc_House_colours kV_House_colours dc_House_colours pm_House_colours cd_House_colours ct_House_colours : Value}
    {f_House___init__ : Addr} {od_House___init__ an_House___init__ : Option Addr} {sl_House___init__ : Array (Option Value)} {oc_House___init__ kV_House___init__ dc_House___init__ pm_House___init__ cd_House___init__ ct_House___init__ : Value}
    {T_House___init__ : Addr} {oT_House___init__ : Value} {uT_House___init__ : Option Addr} {nT_House___init__ : Nat} {sT_House___init__ : Array (Option Value)}
    {e_House___init___0 : Addr} {nE_House___init___0 : Nat}
    {f_House___len__ : Addr} {od_House___len__ an_House___len__ : Option Addr} {sl_House___len__ : Array (Option Value)} {oc_House___len__ kV_House___len__ dc_House___len__ pm_House___len__ cd_House___len__ ct_House___len__ : Value}
    {f_House___repr__ : Addr} {od_House___repr__ an_House___repr__ : Option Addr} {sl_House___repr__ : Array (Option Value)} {oc_House___repr__ kV_House___repr__ dc_House___repr__ pm_House___repr__ cd_House___repr__ ct_House___repr__ : Value}
    {f__law_right : Addr} {od__law_right an__law_right : Option Addr} {sl__law_right : Array (Option Value)} {oc__law_right kV__law_right dc__law_right pm__law_right cd__law_right ct__law_right : Value}
    {f__law_fixed_right : Addr} {od__law_fixed_right an__law_fixed_right : Option Addr} {sl__law_fixed_right : Array (Option Value)} {oc__law_fixed_right kV__law_fixed_right dc__law_fixed_right pm__law_fixed_right cd__law_fixed_right ct__law_fixed_right : Value}
    {f__law_purse : Addr} {od__law_purse an__law_purse : Option Addr} {sl__law_purse : Array (Option Value)} {oc__law_purse kV__law_purse dc__law_purse pm__law_purse cd__law_purse ct__law_purse : Value}
    {f__law_draw : Addr} {od__law_draw an__law_draw : Option Addr} {sl__law_draw : Array (Option Value)} {oc__law_draw kV__law_draw dc__law_draw pm__law_draw cd__law_draw ct__law_draw : Value}
    {f__law_words : Addr} {od__law_words an__law_words : Option Addr} {sl__law_words : Array (Option Value)} {oc__law_words kV__law_words dc__law_words pm__law_words cd__law_words ct__law_words : Value}
    {f__law_grown : Addr} {od__law_grown an__law_grown : Option Addr} {sl__law_grown : Array (Option Value)} {oc__law_grown kV__law_grown dc__law_grown pm__law_grown cd__law_grown ct__law_grown : Value}
    {f__law_doors : Addr} {od__law_doors an__law_doors : Option Addr} {sl__law_doors : Array (Option Value)} {oc__law_doors kV__law_doors dc__law_doors pm__law_doors cd__law_doors ct__law_doors : Value}
    {f__law_drawn : Addr} {od__law_drawn an__law_drawn : Option Addr} {sl__law_drawn : Array (Option Value)} {oc__law_drawn kV__law_drawn dc__law_drawn pm__law_drawn cd__law_drawn ct__law_drawn : Value}
    {f_law : Addr} {od_law an_law : Option Addr} {sl_law : Array (Option Value)} {oc_law kV_law dc_law pm_law cd_law ct_law : Value}
    (z_all : PySem.W.nsIn K mainGlobals "all" = some none)
    (z_bool : PySem.W.nsIn K mainGlobals "bool" = some none)
    (z_enumerate : PySem.W.nsIn K mainGlobals "enumerate" = some none)
    (z_int : PySem.W.nsIn K mainGlobals "int" = some none)
    (z_isinstance : PySem.W.nsIn K mainGlobals "isinstance" = some none)
    (z_len : PySem.W.nsIn K mainGlobals "len" = some none)
    (z_max : PySem.W.nsIn K mainGlobals "max" = some none)
    (z_min : PySem.W.nsIn K mainGlobals "min" = some none)
    (z_range : PySem.W.nsIn K mainGlobals "range" = some none)
    (z_repr : PySem.W.nsIn K mainGlobals "repr" = some none)
    (z_set : PySem.W.nsIn K mainGlobals "set" = some none)
    (z_sorted : PySem.W.nsIn K mainGlobals "sorted" = some none)
    (z_str : PySem.W.nsIn K mainGlobals "str" = some none)
    (z_tuple : PySem.W.nsIn K mainGlobals "tuple" = some none)
    (c_LETTERS : PySem.W.nsIn K mainGlobals "LETTERS" = some (some (.str "abcdefghijklmnopqrstuvwxyz" t_LETTERS)))
    (c_MOST_COLOURS : PySem.W.nsIn K mainGlobals "MOST_COLOURS" = some (some (.int 16 t_MOST_COLOURS)))
    (c_MOST_HALLS : PySem.W.nsIn K mainGlobals "MOST_HALLS" = some (some (.int 64 t_MOST_HALLS)))
    (a_House : PySem.W.nsIn K mainGlobals "House" = some (some (.ref C_House)))
    (pg_House : PySem.W.plainGet K C_House Str.empty = true)
    (hd_House : PySem.W.hasDictIn K C_House = true)
    (po_House : PySem.W.plainOver K C_House = true)
    (sa_House : PySem.W.findIn K (.ref C_House) "__setattr__" = some (some (.builtin "object.__setattr__")))
    (na_House_doors : PySem.W.findIn K (.ref C_House) "doors" = some none)
    (na_House_ends : PySem.W.findIn K (.ref C_House) "ends" = some none)
    (na_House_halls : PySem.W.findIn K (.ref C_House) "halls" = some none)
    (NB_House : PySem.W.findIn K (.ref C_House) "__bool__" = some none)
    (mk_House : PySem.W.makesIn K C_House = true)
    (kc_House : PySem.W.keepIn K (.ref C_House) = true)
    (a_InvalidInput : PySem.W.nsIn K mainGlobals "InvalidInput" = some (some (.ref C_InvalidInput)))
    (rd_InvalidInput : PySem.W.readsIn K C_InvalidInput (.type "type") = true)
    (ga_InvalidInput : PySem.W.specialIn K (.ref C_InvalidInput) "__getattribute__" = some (some (.builtin "type.__getattribute__")))
    (at_InvalidInput : PySem.W.findCls K (.ref C_InvalidInput) (.type "type") "__init__" = some (.val (.builtin "ValueError.__init__")))
    (a_StateError : PySem.W.nsIn K mainGlobals "StateError" = some (some (.ref C_StateError)))
    (rd_StateError : PySem.W.readsIn K C_StateError (.type "type") = true)
    (ga_StateError : PySem.W.specialIn K (.ref C_StateError) "__getattribute__" = some (some (.builtin "type.__getattribute__")))
    (at_StateError : PySem.W.findCls K (.ref C_StateError) (.type "type") "__init__" = some (.val (.builtin "RuntimeError.__init__")))
    (a_InvalidHalls : PySem.W.nsIn K mainGlobals "InvalidHalls" = some (some (.ref C_InvalidHalls)))
    (lx_InvalidHalls : K.lookup C_InvalidHalls = some (excClassObj nm_InvalidHalls q_InvalidHalls C_InvalidHalls N_InvalidHalls bs_InvalidHalls [.ref C_InvalidInput, .type "ValueError", .type "Exception", .type "BaseException", .type "object"] true sn_InvalidHalls sub_InvalidHalls ab_InvalidHalls col_InvalidHalls dd_InvalidHalls k0_InvalidHalls k1_InvalidHalls k2_InvalidHalls k3_InvalidHalls k5_InvalidHalls "ValueError.__new__"))
    (sa_InvalidHalls : PySem.W.findIn K (.ref C_InvalidHalls) "__setattr__" = some (some (.builtin "object.__setattr__")))
    (ex_InvalidHalls : PySem.W.subIn K (.ref C_InvalidHalls) (.type "BaseException") = some true)
    (ty_InvalidHalls : PySem.W.typeIn K (.ref C_InvalidHalls) = some (.type "type"))
    (kc_InvalidHalls : PySem.W.keepIn K (.ref C_InvalidHalls) = true)
    (ic_InvalidHalls : PySem.W.findIn K (.ref C_InvalidHalls) "__init__" = some (some (.ref f_InvalidHalls)))
    (tf_InvalidHalls : PySem.W.typeIn K (.ref f_InvalidHalls) = some (.type "function"))
    (no_InvalidHalls : PySem.W.findIn K (.ref C_InvalidHalls) "halls" = some none)
    (l_InvalidHalls : K.lookup f_InvalidHalls = some ⟨oc_InvalidHalls, od_InvalidHalls, .func (PySem.W.fnOf "__init__" "InvalidHalls.__init__" (defArgs s_InvalidHalls) (defBody s_InvalidHalls) (defScope s_InvalidHalls) .none kV_InvalidHalls dc_InvalidHalls pm_InvalidHalls an_InvalidHalls cd_InvalidHalls ct_InvalidHalls), sl_InvalidHalls⟩)
    (k_InvalidHalls : PySem.W.codeIn K cd_InvalidHalls "InvalidHalls.__init__" = true)
    (p_InvalidHalls : PySem.W.keepIn K (.ref f_InvalidHalls) = true)
    (a_InvalidDoors : PySem.W.nsIn K mainGlobals "InvalidDoors" = some (some (.ref C_InvalidDoors)))
    (lx_InvalidDoors : K.lookup C_InvalidDoors = some (excClassObj nm_InvalidDoors q_InvalidDoors C_InvalidDoors N_InvalidDoors bs_InvalidDoors [.ref C_InvalidInput, .type "ValueError", .type "Exception", .type "BaseException", .type "object"] true sn_InvalidDoors sub_InvalidDoors ab_InvalidDoors col_InvalidDoors dd_InvalidDoors k0_InvalidDoors k1_InvalidDoors k2_InvalidDoors k3_InvalidDoors k5_InvalidDoors "ValueError.__new__"))
    (sa_InvalidDoors : PySem.W.findIn K (.ref C_InvalidDoors) "__setattr__" = some (some (.builtin "object.__setattr__")))
    (ex_InvalidDoors : PySem.W.subIn K (.ref C_InvalidDoors) (.type "BaseException") = some true)
    (ty_InvalidDoors : PySem.W.typeIn K (.ref C_InvalidDoors) = some (.type "type"))
    (kc_InvalidDoors : PySem.W.keepIn K (.ref C_InvalidDoors) = true)
    (ic_InvalidDoors : PySem.W.findIn K (.ref C_InvalidDoors) "__init__" = some (some (.ref f_InvalidDoors)))
    (tf_InvalidDoors : PySem.W.typeIn K (.ref f_InvalidDoors) = some (.type "function"))
    (no_InvalidDoors : PySem.W.findIn K (.ref C_InvalidDoors) "position" = some none)
    (l_InvalidDoors : K.lookup f_InvalidDoors = some ⟨oc_InvalidDoors, od_InvalidDoors, .func (PySem.W.fnOf "__init__" "InvalidDoors.__init__" (defArgs s_InvalidDoors) (defBody s_InvalidDoors) (defScope s_InvalidDoors) .none kV_InvalidDoors dc_InvalidDoors pm_InvalidDoors an_InvalidDoors cd_InvalidDoors ct_InvalidDoors), sl_InvalidDoors⟩)
    (k_InvalidDoors : PySem.W.codeIn K cd_InvalidDoors "InvalidDoors.__init__" = true)
    (p_InvalidDoors : PySem.W.keepIn K (.ref f_InvalidDoors) = true)
    (a_Unreachable : PySem.W.nsIn K mainGlobals "Unreachable" = some (some (.ref C_Unreachable)))
    (lx_Unreachable : K.lookup C_Unreachable = some (excClassObj nm_Unreachable q_Unreachable C_Unreachable N_Unreachable bs_Unreachable [.ref C_StateError, .type "RuntimeError", .type "Exception", .type "BaseException", .type "object"] true sn_Unreachable sub_Unreachable ab_Unreachable col_Unreachable dd_Unreachable k0_Unreachable k1_Unreachable k2_Unreachable k3_Unreachable k5_Unreachable "RuntimeError.__new__"))
    (sa_Unreachable : PySem.W.findIn K (.ref C_Unreachable) "__setattr__" = some (some (.builtin "object.__setattr__")))
    (ex_Unreachable : PySem.W.subIn K (.ref C_Unreachable) (.type "BaseException") = some true)
    (ty_Unreachable : PySem.W.typeIn K (.ref C_Unreachable) = some (.type "type"))
    (kc_Unreachable : PySem.W.keepIn K (.ref C_Unreachable) = true)
    (ic_Unreachable : PySem.W.findIn K (.ref C_Unreachable) "__init__" = some (some (.ref f_Unreachable)))
    (tf_Unreachable : PySem.W.typeIn K (.ref f_Unreachable) = some (.type "function"))
    (no_Unreachable : PySem.W.findIn K (.ref C_Unreachable) "hall" = some none)
    (l_Unreachable : K.lookup f_Unreachable = some ⟨oc_Unreachable, od_Unreachable, .func (PySem.W.fnOf "__init__" "Unreachable.__init__" (defArgs s_Unreachable) (defBody s_Unreachable) (defScope s_Unreachable) .none kV_Unreachable dc_Unreachable pm_Unreachable an_Unreachable cd_Unreachable ct_Unreachable), sl_Unreachable⟩)
    (k_Unreachable : PySem.W.codeIn K cd_Unreachable "Unreachable.__init__" = true)
    (p_Unreachable : PySem.W.keepIn K (.ref f_Unreachable) = true)
    (i_hn : PySem.W.specialIn K (.builtin "object.__class__") "__get__" = some (some (.builtin "getset_descriptor.__get__")))
    (i_ht : PySem.W.takesIn K (.builtin "object.__class__") = some true)
    (i_ha_House : PySem.W.findIn K (.ref C_House) "__class__" = some (some (.builtin "object.__class__")))
    (i_hm_House : PySem.W.mroIn K C_House (.type "object") = some true)
    (i_1_House_NoneType : PySem.W.kitOne K (.type "NoneType") (.ref C_House) = some false)
    (i_1_House_bool : PySem.W.kitOne K (.type "bool") (.ref C_House) = some false)
    (i_1_House_int : PySem.W.kitOne K (.type "int") (.ref C_House) = some false)
    (i_1_House_str : PySem.W.kitOne K (.type "str") (.ref C_House) = some false)
    (i_1_House_tuple : PySem.W.kitOne K (.type "tuple") (.ref C_House) = some false)
    (i_1_House_list : PySem.W.kitOne K (.type "list") (.ref C_House) = some false)
    (i_1_House_dict : PySem.W.kitOne K (.type "dict") (.ref C_House) = some false)
    (i_2_House_bool : PySem.W.kitOne K (.ref C_House) (.type "bool") = some false)
    (i_2_House_int : PySem.W.kitOne K (.ref C_House) (.type "int") = some false)
    (i_2_House_str : PySem.W.kitOne K (.ref C_House) (.type "str") = some false)
    (i_2_House_tuple : PySem.W.kitOne K (.ref C_House) (.type "tuple") = some false)
    (i_2_House_list : PySem.W.kitOne K (.ref C_House) (.type "list") = some false)
    (i_2_House_dict : PySem.W.kitOne K (.ref C_House) (.type "dict") = some false)
    (i_3_House_House : PySem.W.kitOne K (.ref C_House) (.ref C_House) = some true)
    (a__law_cube : PySem.W.nsIn K mainGlobals "_law_cube" = some (some (.ref f__law_cube)))
    (l__law_cube : K.lookup f__law_cube = some ⟨oc__law_cube, od__law_cube, .func (PySem.W.fnOf "_law_cube" "_law_cube" (defArgs s__law_cube) (defBody s__law_cube) (defScope s__law_cube) .none kV__law_cube dc__law_cube pm__law_cube an__law_cube cd__law_cube ct__law_cube), sl__law_cube⟩)
    (k__law_cube : PySem.W.codeIn K cd__law_cube "_law_cube" = true)
    (p__law_cube : PySem.W.keepIn K (.ref f__law_cube) = true)
    (a_is_integer : PySem.W.nsIn K mainGlobals "is_integer" = some (some (.ref f_is_integer)))
    (l_is_integer : K.lookup f_is_integer = some ⟨oc_is_integer, od_is_integer, .func (PySem.W.fnOf "is_integer" "is_integer" (defArgs s_is_integer) (defBody s_is_integer) (defScope s_is_integer) .none kV_is_integer dc_is_integer pm_is_integer an_is_integer cd_is_integer ct_is_integer), sl_is_integer⟩)
    (k_is_integer : PySem.W.codeIn K cd_is_integer "is_integer" = true)
    (p_is_integer : PySem.W.keepIn K (.ref f_is_integer) = true)
    (a_is_colour : PySem.W.nsIn K mainGlobals "is_colour" = some (some (.ref f_is_colour)))
    (l_is_colour : K.lookup f_is_colour = some ⟨oc_is_colour, od_is_colour, .func (PySem.W.fnOf "is_colour" "is_colour" (defArgs s_is_colour) (defBody s_is_colour) (defScope s_is_colour) .none kV_is_colour dc_is_colour pm_is_colour an_is_colour cd_is_colour ct_is_colour), sl_is_colour⟩)
    (k_is_colour : PySem.W.codeIn K cd_is_colour "is_colour" = true)
    (p_is_colour : PySem.W.keepIn K (.ref f_is_colour) = true)
    (a_is_door : PySem.W.nsIn K mainGlobals "is_door" = some (some (.ref f_is_door)))
    (l_is_door : K.lookup f_is_door = some ⟨oc_is_door, od_is_door, .func (PySem.W.fnOf "is_door" "is_door" (defArgs s_is_door) (defBody s_is_door) (defScope s_is_door) .none kV_is_door dc_is_door pm_is_door an_is_door cd_is_door ct_is_door), sl_is_door⟩)
    (k_is_door : PySem.W.codeIn K cd_is_door "is_door" = true)
    (p_is_door : PySem.W.keepIn K (.ref f_is_door) = true)
    (a_ends_of : PySem.W.nsIn K mainGlobals "ends_of" = some (some (.ref f_ends_of)))
    (l_ends_of : K.lookup f_ends_of = some ⟨oc_ends_of, od_ends_of, .func (PySem.W.fnOf "ends_of" "ends_of" (defArgs s_ends_of) (defBody s_ends_of) (defScope s_ends_of) .none kV_ends_of dc_ends_of pm_ends_of an_ends_of cd_ends_of ct_ends_of), sl_ends_of⟩)
    (k_ends_of : PySem.W.codeIn K cd_ends_of "ends_of" = true)
    (p_ends_of : PySem.W.keepIn K (.ref f_ends_of) = true)
    (a_reached_through : PySem.W.nsIn K mainGlobals "reached_through" = some (some (.ref f_reached_through)))
    (l_reached_through : K.lookup f_reached_through = some ⟨oc_reached_through, od_reached_through, .func (PySem.W.fnOf "reached_through" "reached_through" (defArgs s_reached_through) (defBody s_reached_through) (defScope s_reached_through) .none kV_reached_through dc_reached_through pm_reached_through an_reached_through cd_reached_through ct_reached_through), sl_reached_through⟩)
    (k_reached_through : PySem.W.codeIn K cd_reached_through "reached_through" = true)
    (p_reached_through : PySem.W.keepIn K (.ref f_reached_through) = true)
    (i_House_colours : PySem.W.findIn K (.ref C_House) "colours" = some (some (.ref f_House_colours)))
    (fn_House_colours : PySem.W.isFn K (.ref f_House_colours) = true)
    (l_House_colours : K.lookup f_House_colours = some ⟨oc_House_colours, od_House_colours, .func (PySem.W.fnOf "colours" "House.colours" (defArgs s_House_colours) (defBody s_House_colours) (defScope s_House_colours) .none kV_House_colours dc_House_colours pm_House_colours an_House_colours cd_House_colours ct_House_colours), sl_House_colours⟩)
    (k_House_colours : PySem.W.codeIn K cd_House_colours "House.colours" = true)
    (p_House_colours : PySem.W.keepIn K (.ref f_House_colours) = true)
    (i_House___init__ : PySem.W.findIn K (.ref C_House) "__init__" = some (some (.ref f_House___init__)))
    (fn_House___init__ : PySem.W.isFn K (.ref f_House___init__) = true)
    (l_House___init__ : K.lookup f_House___init__ = some ⟨oc_House___init__, od_House___init__, .func (PySem.W.fnOf "__init__" "House.__init__" (defArgs s_House___init__) (defBody s_House___init__) (defScope s_House___init__) (.ref T_House___init__) kV_House___init__ dc_House___init__ pm_House___init__ an_House___init__ cd_House___init__ ct_House___init__), sl_House___init__⟩)
    (k_House___init__ : PySem.W.codeIn K cd_House___init__ "House.__init__" = true)
    (p_House___init__ : PySem.W.keepIn K (.ref f_House___init__) = true)
    (t_House___init__ : K.lookup T_House___init__ = some ⟨oT_House___init__, uT_House___init__, .seq #[.ref e_House___init___0] nT_House___init__, sT_House___init__⟩)
    (te_House___init___0 : K.lookup e_House___init___0 = some ⟨.type "tuple", none, .seq #[] nE_House___init___0, #[]⟩)
    (i_House___len__ : PySem.W.findIn K (.ref C_House) "__len__" = some (some (.ref f_House___len__)))
    (fn_House___len__ : PySem.W.isFn K (.ref f_House___len__) = true)
    (l_House___len__ : K.lookup f_House___len__ = some ⟨oc_House___len__, od_House___len__, .func (PySem.W.fnOf "__len__" "House.__len__" (defArgs s_House___len__) (defBody s_House___len__) (defScope s_House___len__) .none kV_House___len__ dc_House___len__ pm_House___len__ an_House___len__ cd_House___len__ ct_House___len__), sl_House___len__⟩)
    (k_House___len__ : PySem.W.codeIn K cd_House___len__ "House.__len__" = true)
    (p_House___len__ : PySem.W.keepIn K (.ref f_House___len__) = true)
    (i_House___repr__ : PySem.W.findIn K (.ref C_House) "__repr__" = some (some (.ref f_House___repr__)))
    (fn_House___repr__ : PySem.W.isFn K (.ref f_House___repr__) = true)
    (l_House___repr__ : K.lookup f_House___repr__ = some ⟨oc_House___repr__, od_House___repr__, .func (PySem.W.fnOf "__repr__" "House.__repr__" (defArgs s_House___repr__) (defBody s_House___repr__) (defScope s_House___repr__) .none kV_House___repr__ dc_House___repr__ pm_House___repr__ an_House___repr__ cd_House___repr__ ct_House___repr__), sl_House___repr__⟩)
    (k_House___repr__ : PySem.W.codeIn K cd_House___repr__ "House.__repr__" = true)
    (p_House___repr__ : PySem.W.keepIn K (.ref f_House___repr__) = true)
    (a__law_right : PySem.W.nsIn K mainGlobals "_law_right" = some (some (.ref f__law_right)))
    (l__law_right : K.lookup f__law_right = some ⟨oc__law_right, od__law_right, .func (PySem.W.fnOf "_law_right" "_law_right" (defArgs s__law_right) (defBody s__law_right) (defScope s__law_right) .none kV__law_right dc__law_right pm__law_right an__law_right cd__law_right ct__law_right), sl__law_right⟩)
    (k__law_right : PySem.W.codeIn K cd__law_right "_law_right" = true)
    (p__law_right : PySem.W.keepIn K (.ref f__law_right) = true)
    (a__law_fixed_right : PySem.W.nsIn K mainGlobals "_law_fixed_right" = some (some (.ref f__law_fixed_right)))
    (l__law_fixed_right : K.lookup f__law_fixed_right = some ⟨oc__law_fixed_right, od__law_fixed_right, .func (PySem.W.fnOf "_law_fixed_right" "_law_fixed_right" (defArgs s__law_fixed_right) (defBody s__law_fixed_right) (defScope s__law_fixed_right) .none kV__law_fixed_right dc__law_fixed_right pm__law_fixed_right an__law_fixed_right cd__law_fixed_right ct__law_fixed_right), sl__law_fixed_right⟩)
    (k__law_fixed_right : PySem.W.codeIn K cd__law_fixed_right "_law_fixed_right" = true)
    (p__law_fixed_right : PySem.W.keepIn K (.ref f__law_fixed_right) = true)
    (a__law_purse : PySem.W.nsIn K mainGlobals "_law_purse" = some (some (.ref f__law_purse)))
    (l__law_purse : K.lookup f__law_purse = some ⟨oc__law_purse, od__law_purse, .func (PySem.W.fnOf "_law_purse" "_law_purse" (defArgs s__law_purse) (defBody s__law_purse) (defScope s__law_purse) .none kV__law_purse dc__law_purse pm__law_purse an__law_purse cd__law_purse ct__law_purse), sl__law_purse⟩)
    (k__law_purse : PySem.W.codeIn K cd__law_purse "_law_purse" = true)
    (p__law_purse : PySem.W.keepIn K (.ref f__law_purse) = true)
    (a__law_draw : PySem.W.nsIn K mainGlobals "_law_draw" = some (some (.ref f__law_draw)))
    (l__law_draw : K.lookup f__law_draw = some ⟨oc__law_draw, od__law_draw, .func (PySem.W.fnOf "_law_draw" "_law_draw" (defArgs s__law_draw) (defBody s__law_draw) (defScope s__law_draw) .none kV__law_draw dc__law_draw pm__law_draw an__law_draw cd__law_draw ct__law_draw), sl__law_draw⟩)
    (k__law_draw : PySem.W.codeIn K cd__law_draw "_law_draw" = true)
    (p__law_draw : PySem.W.keepIn K (.ref f__law_draw) = true)
    (a__law_words : PySem.W.nsIn K mainGlobals "_law_words" = some (some (.ref f__law_words)))
    (l__law_words : K.lookup f__law_words = some ⟨oc__law_words, od__law_words, .func (PySem.W.fnOf "_law_words" "_law_words" (defArgs s__law_words) (defBody s__law_words) (defScope s__law_words) .none kV__law_words dc__law_words pm__law_words an__law_words cd__law_words ct__law_words), sl__law_words⟩)
    (k__law_words : PySem.W.codeIn K cd__law_words "_law_words" = true)
    (p__law_words : PySem.W.keepIn K (.ref f__law_words) = true)
    (a__law_grown : PySem.W.nsIn K mainGlobals "_law_grown" = some (some (.ref f__law_grown)))
    (l__law_grown : K.lookup f__law_grown = some ⟨oc__law_grown, od__law_grown, .func (PySem.W.fnOf "_law_grown" "_law_grown" (defArgs s__law_grown) (defBody s__law_grown) (defScope s__law_grown) .none kV__law_grown dc__law_grown pm__law_grown an__law_grown cd__law_grown ct__law_grown), sl__law_grown⟩)
    (k__law_grown : PySem.W.codeIn K cd__law_grown "_law_grown" = true)
    (p__law_grown : PySem.W.keepIn K (.ref f__law_grown) = true)
    (a__law_doors : PySem.W.nsIn K mainGlobals "_law_doors" = some (some (.ref f__law_doors)))
    (l__law_doors : K.lookup f__law_doors = some ⟨oc__law_doors, od__law_doors, .func (PySem.W.fnOf "_law_doors" "_law_doors" (defArgs s__law_doors) (defBody s__law_doors) (defScope s__law_doors) .none kV__law_doors dc__law_doors pm__law_doors an__law_doors cd__law_doors ct__law_doors), sl__law_doors⟩)
    (k__law_doors : PySem.W.codeIn K cd__law_doors "_law_doors" = true)
    (p__law_doors : PySem.W.keepIn K (.ref f__law_doors) = true)
    (a__law_drawn : PySem.W.nsIn K mainGlobals "_law_drawn" = some (some (.ref f__law_drawn)))
    (l__law_drawn : K.lookup f__law_drawn = some ⟨oc__law_drawn, od__law_drawn, .func (PySem.W.fnOf "_law_drawn" "_law_drawn" (defArgs s__law_drawn) (defBody s__law_drawn) (defScope s__law_drawn) .none kV__law_drawn dc__law_drawn pm__law_drawn an__law_drawn cd__law_drawn ct__law_drawn), sl__law_drawn⟩)
    (k__law_drawn : PySem.W.codeIn K cd__law_drawn "_law_drawn" = true)
    (p__law_drawn : PySem.W.keepIn K (.ref f__law_drawn) = true)
    (a_law : PySem.W.nsIn K mainGlobals "law" = some (some (.ref f_law)))
    (l_law : K.lookup f_law = some ⟨oc_law, od_law, .func (PySem.W.fnOf "law" "law" (defArgs s_law) (defBody s_law) (defScope s_law) .none kV_law dc_law pm_law an_law cd_law ct_law), sl_law⟩)
    (k_law : PySem.W.codeIn K cd_law "law" = true)
    (p_law : PySem.W.keepIn K (.ref f_law) = true) :
    ∃ fd : FuncData, (∀ (s : Shared) (v : Value), BindsTo s fd ⟨[v], []⟩ [("_law_script", v)]) ∧ ∀ base : Heap, K.In base → base.Ns mainGlobals mg → FnG P w K mg base (L2.CX P w) 8 fa fd ["_law_script"] (spL K) := by
  have e := hfa.symm.trans (PySem.W.mg_of X G a_law)
  cases e
  generalize hcl : (fun c => if isX c = true then (if c = xk "InvalidHalls" then some C_InvalidHalls else if c = xk "InvalidDoors" then some C_InvalidDoors else if c = xk "Unreachable" then some C_Unreachable else none) else (if c = "House" then some C_House else none) : Str → Option Addr) = cl
  have cl_House : cl "House" = some C_House := by
    subst hcl
    show (if isX "House" = true then _ else _) = _
    rw [if_neg (show ¬ isX "House" = true from by decide +kernel), if_pos (show ("House" : Str) = "House" from rfl)]
  have k_House : Cls K C_House := ⟨pg_House, hd_House, po_House, sa_House⟩
  have cx_InvalidHalls : cl (xk "InvalidHalls") = some C_InvalidHalls := by
    subst hcl
    show (if isX (xk "InvalidHalls") = true then _ else _) = _
    rw [if_pos (isX_xk _), if_pos (show xk "InvalidHalls" = xk "InvalidHalls" from rfl)]
  have cx_InvalidDoors : cl (xk "InvalidDoors") = some C_InvalidDoors := by
    subst hcl
    show (if isX (xk "InvalidDoors") = true then _ else _) = _
    rw [if_pos (isX_xk _), if_neg (show ¬ xk "InvalidDoors" = xk "InvalidHalls" from by decide +kernel), if_pos (show xk "InvalidDoors" = xk "InvalidDoors" from rfl)]
  have cx_Unreachable : cl (xk "Unreachable") = some C_Unreachable := by
    subst hcl
    show (if isX (xk "Unreachable") = true then _ else _) = _
    rw [if_pos (isX_xk _), if_neg (show ¬ xk "Unreachable" = xk "InvalidHalls" from by decide +kernel), if_neg (show ¬ xk "Unreachable" = xk "InvalidDoors" from by decide +kernel), if_pos (show xk "Unreachable" = xk "Unreachable" from rfl)]
  have clI : ∀ (c : Str) (A : Addr), cl c = some A → isX c = false → (c = "House" ∧ C_House = A) := by
    intro c A h hx
    subst hcl
    simp only at h
    rw [if_neg (by rw [hx]; decide)] at h
    by_cases h0 : c = "House"
    · rw [if_pos h0] at h; cases h; exact ⟨h0, rfl⟩
    rw [if_neg h0] at h
    cases h
  have isi : IsiF K cl := by
    refine ⟨fun c A h hx => ?_, fun c A h hx a ha => ?_, fun c A h hx a ha => ?_, fun c A c2 A2 h h2 hx hx2 => ?_⟩
    · rcases clI c A h hx with (⟨rfl, rfl⟩)
      exact ⟨k_House, i_ha_House, i_hn, i_ht, i_hm_House⟩
    · rcases clI c A h hx with (⟨rfl, rfl⟩)
      exact kinds_all (p := fun a => PySem.W.kitOne K (.type a) (.ref C_House) = some false) i_1_House_NoneType i_1_House_bool i_1_House_int i_1_House_str i_1_House_tuple i_1_House_list i_1_House_dict a ha
    · rcases clI c A h hx with (⟨rfl, rfl⟩)
      exact kinds_tail (p := fun a => PySem.W.kitOne K (.ref C_House) (.type a) = some false) i_2_House_bool i_2_House_int i_2_House_str i_2_House_tuple i_2_House_list i_2_House_dict a ha
    · rcases clI c A h hx with (⟨rfl, rfl⟩)
      rcases clI c2 A2 h2 hx2 with (⟨rfl, rfl⟩)
      exact i_3_House_House.trans (beq_same _)
  have f_doors : ClF cl K "doors" := by
    intro c A h hx
    rcases clI c A h hx with (⟨rfl, rfl⟩)
    exact ⟨k_House, na_House_doors⟩
  have f_ends : ClF cl K "ends" := by
    intro c A h hx
    rcases clI c A h hx with (⟨rfl, rfl⟩)
    exact ⟨k_House, na_House_ends⟩
  have f_halls : ClF cl K "halls" := by
    intro c A h hx
    rcases clI c A h hx with (⟨rfl, rfl⟩)
    exact ⟨k_House, na_House_halls⟩
  have T : Txt K mg cl C_House C_InvalidHalls C_InvalidDoors C_Unreachable := ⟨PySem.W.mg_none_of X G z_all, PySem.W.mg_none_of X G z_bool, PySem.W.mg_none_of X G z_enumerate, PySem.W.mg_none_of X G z_int, PySem.W.mg_none_of X G z_isinstance, PySem.W.mg_none_of X G z_len, PySem.W.mg_none_of X G z_max, PySem.W.mg_none_of X G z_min, PySem.W.mg_none_of X G z_range, PySem.W.mg_none_of X G z_repr, PySem.W.mg_none_of X G z_set, PySem.W.mg_none_of X G z_sorted, PySem.W.mg_none_of X G z_str, PySem.W.mg_none_of X G z_tuple, ⟨_, PySem.W.mg_of X G c_LETTERS⟩, ⟨_, PySem.W.mg_of X G c_MOST_COLOURS⟩, ⟨_, PySem.W.mg_of X G c_MOST_HALLS⟩, PySem.W.mg_of X G a_House, cl_House, k_House, PySem.W.mg_of X G a_InvalidHalls, cx_InvalidHalls, PySem.W.mg_of X G a_InvalidDoors, cx_InvalidDoors, PySem.W.mg_of X G a_Unreachable, cx_Unreachable, f_doors, f_ends, f_halls, isi, trivial⟩
  have F__law_cube := fun_mk (st := s__law_cube) l__law_cube k__law_cube p__law_cube
  have b__law_cube := F__law_cube.binds (ps := ps__law_cube) fun _ _ _ _ _ _ us hl => match us, hl with | [], _ => rfl
  have F_is_integer := fun_mk (st := s_is_integer) l_is_integer k_is_integer p_is_integer
  have b_is_integer := F_is_integer.binds (ps := ps_is_integer) fun _ _ _ _ _ _ us hl => match us, hl with | [_, _, _], _ => rfl
  have F_is_colour := fun_mk (st := s_is_colour) l_is_colour k_is_colour p_is_colour
  have b_is_colour := F_is_colour.binds (ps := ps_is_colour) fun _ _ _ _ _ _ us hl => match us, hl with | [_], _ => rfl
  have F_is_door := fun_mk (st := s_is_door) l_is_door k_is_door p_is_door
  have b_is_door := F_is_door.binds (ps := ps_is_door) fun _ _ _ _ _ _ us hl => match us, hl with | [_, _], _ => rfl
  have F_ends_of := fun_mk (st := s_ends_of) l_ends_of k_ends_of p_ends_of
  have b_ends_of := F_ends_of.binds (ps := ps_ends_of) fun _ _ _ _ _ _ us hl => match us, hl with | [_, _], _ => rfl
  have F_reached_through := fun_mk (st := s_reached_through) l_reached_through k_reached_through p_reached_through
  have b_reached_through := F_reached_through.binds (ps := ps_reached_through) fun _ _ _ _ _ _ us hl => match us, hl with | [_, _], _ => rfl
  have F_House_colours := fun_mk (st := s_House_colours) l_House_colours k_House_colours p_House_colours
  have b_House_colours := F_House_colours.binds (ps := ps_House_colours) fun _ _ _ _ _ _ us hl => match us, hl with | [_], _ => rfl
  have F_House___init__ := funX_mk (st := s_House___init__) l_House___init__ k_House___init__ p_House___init__
  have b_House___init__ : Binds K (PySem.W.fnOf "__init__" "House.__init__" (defArgs s_House___init__) (defBody s_House___init__) (defScope s_House___init__) (.ref T_House___init__) kV_House___init__ dc_House___init__ pm_House___init__ an_House___init__ cd_House___init__ ct_House___init__) ps_House___init__ [] := binds_T t_House___init__ rfl fun us hl => match us, hl with | [_, _, _], _ => ⟨_, rfl, rfl⟩
  have F_House___len__ := fun_mk (st := s_House___len__) l_House___len__ k_House___len__ p_House___len__
  have b_House___len__ := F_House___len__.binds (ps := ps_House___len__) fun _ _ _ _ _ _ us hl => match us, hl with | [_], _ => rfl
  have F_House___repr__ := fun_mk (st := s_House___repr__) l_House___repr__ k_House___repr__ p_House___repr__
  have b_House___repr__ := F_House___repr__.binds (ps := ps_House___repr__) fun _ _ _ _ _ _ us hl => match us, hl with | [_], _ => rfl
  have F__law_right := fun_mk (st := s__law_right) l__law_right k__law_right p__law_right
  have b__law_right := F__law_right.binds (ps := ps__law_right) fun _ _ _ _ _ _ us hl => match us, hl with | [_, _], _ => rfl
  have F__law_fixed_right := fun_mk (st := s__law_fixed_right) l__law_fixed_right k__law_fixed_right p__law_fixed_right
  have b__law_fixed_right := F__law_fixed_right.binds (ps := ps__law_fixed_right) fun _ _ _ _ _ _ us hl => match us, hl with | [], _ => rfl
  have F__law_purse := fun_mk (st := s__law_purse) l__law_purse k__law_purse p__law_purse
  have b__law_purse := F__law_purse.binds (ps := ps__law_purse) fun _ _ _ _ _ _ us hl => match us, hl with | [_, _], _ => rfl
  have F__law_draw := fun_mk (st := s__law_draw) l__law_draw k__law_draw p__law_draw
  have b__law_draw := F__law_draw.binds (ps := ps__law_draw) fun _ _ _ _ _ _ us hl => match us, hl with | [_, _], _ => rfl
  have F__law_words := fun_mk (st := s__law_words) l__law_words k__law_words p__law_words
  have b__law_words := F__law_words.binds (ps := ps__law_words) fun _ _ _ _ _ _ us hl => match us, hl with | [_, _], _ => rfl
  have F__law_grown := fun_mk (st := s__law_grown) l__law_grown k__law_grown p__law_grown
  have b__law_grown := F__law_grown.binds (ps := ps__law_grown) fun _ _ _ _ _ _ us hl => match us, hl with | [_, _, _], _ => rfl
  have F__law_doors := fun_mk (st := s__law_doors) l__law_doors k__law_doors p__law_doors
  have b__law_doors := F__law_doors.binds (ps := ps__law_doors) fun _ _ _ _ _ _ us hl => match us, hl with | [_], _ => rfl
  have F__law_drawn := fun_mk (st := s__law_drawn) l__law_drawn k__law_drawn p__law_drawn
  have b__law_drawn := F__law_drawn.binds (ps := ps__law_drawn) fun _ _ _ _ _ _ us hl => match us, hl with | [_], _ => rfl
  have F_law := fun_mk (st := s_law) l_law k_law p_law
  have b_law := F_law.binds (ps := ps_law) fun _ _ _ _ _ _ us hl => match us, hl with | [_], _ => rfl
  have d_House___init___1_doors_halls : Dfl K cl (PySem.W.fnOf "__init__" "House.__init__" (defArgs s_House___init__) (defBody s_House___init__) (defScope s_House___init__) (.ref T_House___init__) kV_House___init__ dc_House___init__ pm_House___init__ an_House___init__ cd_House___init__ ct_House___init__) ps_House___init__ 1 ["doors", "halls"] [] [0, 2, 1] := ⟨[], fun _ => RepL.nil, kwD_T0 t_House___init__ rfl fun us ws h1 h2 => match us, ws, h1, h2 with | [_], [_, _], _, _ => ⟨_, rfl, rfl⟩⟩
  have d_House___init___1_halls_D : Dfl K cl (PySem.W.fnOf "__init__" "House.__init__" (defArgs s_House___init__) (defBody s_House___init__) (defScope s_House___init__) (.ref T_House___init__) kV_House___init__ dc_House___init__ pm_House___init__ an_House___init__ cd_House___init__ ct_House___init__) ps_House___init__ 1 ["halls"] [.tup []] [0, 1, 2] := ⟨[.ref e_House___init___0], fun _ => (RepL.cons (rep_tup0 te_House___init___0) RepL.nil), kwD_T t_House___init__ rfl (.cons rfl .nil) fun us ws h1 h2 => match us, ws, h1, h2 with | [_], [_], _, _ => ⟨_, rfl, rfl⟩⟩
  have d_House___init___2_D : Dfl K cl (PySem.W.fnOf "__init__" "House.__init__" (defArgs s_House___init__) (defBody s_House___init__) (defScope s_House___init__) (.ref T_House___init__) kV_House___init__ dc_House___init__ pm_House___init__ an_House___init__ cd_House___init__ ct_House___init__) ps_House___init__ 2 [] [.tup []] [0, 1, 2] := ⟨[.ref e_House___init___0], fun _ => (RepL.cons (rep_tup0 te_House___init___0) RepL.nil), kwD_T t_House___init__ rfl (.cons rfl .nil) fun us ws h1 h2 => match us, ws, h1, h2 with | [_, _], [], _, _ => ⟨_, rfl, rfl⟩⟩
  have d_House___init___2_doors : Dfl K cl (PySem.W.fnOf "__init__" "House.__init__" (defArgs s_House___init__) (defBody s_House___init__) (defScope s_House___init__) (.ref T_House___init__) kV_House___init__ dc_House___init__ pm_House___init__ an_House___init__ cd_House___init__ ct_House___init__) ps_House___init__ 2 ["doors"] [] [0, 1, 2] := ⟨[], fun _ => RepL.nil, kwD_T0 t_House___init__ rfl fun us ws h1 h2 => match us, ws, h1, h2 with | [_, _], [_], _, _ => ⟨_, rfl, rfl⟩⟩
  have d_House___init___3 : Dfl K cl (PySem.W.fnOf "__init__" "House.__init__" (defArgs s_House___init__) (defBody s_House___init__) (defScope s_House___init__) (.ref T_House___init__) kV_House___init__ dc_House___init__ pm_House___init__ an_House___init__ cd_House___init__ ct_House___init__) ps_House___init__ 3 [] [] [0, 1, 2] := ⟨[], fun _ => RepL.nil, kwD_T0 t_House___init__ rfl fun us ws h1 h2 => match us, ws, h1, h2 with | [_, _, _], [], _, _ => ⟨_, rfl, rfl⟩⟩
  have d_House_colours_1 : Dfl K cl (PySem.W.fnOf "colours" "House.colours" (defArgs s_House_colours) (defBody s_House_colours) (defScope s_House_colours) .none kV_House_colours dc_House_colours pm_House_colours an_House_colours cd_House_colours ct_House_colours) ps_House_colours 1 [] [] [0] := ⟨[], fun _ => RepL.nil, kwD_fn F_House_colours fun _ _ _ _ _ _ us ws h1 h2 => match us, ws, h1, h2 with | [_], [], _, _ => rfl⟩
  refine ⟨PySem.W.fnOf "law" "law" (defArgs s_law) (defBody s_law) (defScope s_law) .none kV_law dc_law pm_law an_law cd_law ct_law, fun s v => .of_eq rfl, fun base _ _ => ?_⟩
  have XB_InvalidInput : XBase K "ValueError.__init__" C_InvalidInput := ⟨rd_InvalidInput, ga_InvalidInput, at_InvalidInput⟩
  have XB_StateError : XBase K "RuntimeError.__init__" C_StateError := ⟨rd_StateError, ga_StateError, at_StateError⟩
  have F_InvalidHalls := fun_mk (st := s_InvalidHalls) l_InvalidHalls k_InvalidHalls p_InvalidHalls
  have Bx_InvalidHalls := F_InvalidHalls.binds (ps := ["self", "halls"]) fun _ _ _ _ _ _ us hl => match us, hl with | [_, _], _ => rfl
  have TX_InvalidHalls : XCls K "ValueError" "ValueError.__new__" C_InvalidHalls := ⟨⟨_, _, _, _, _, _, _, _, _, _, _, _, _, _, _, lx_InvalidHalls, by simp [ownsX, xTail]⟩, sa_InvalidHalls, ex_InvalidHalls, ty_InvalidHalls, kc_InvalidHalls⟩
  have Mx_InvalidHalls : XMk K "ValueError" "ValueError.__new__" C_InvalidHalls f_InvalidHalls := ⟨TX_InvalidHalls, ic_InvalidHalls, tf_InvalidHalls⟩
  have Gx_InvalidHalls := xi_InvalidHalls (P := P) (w := w) (mg := mg) (base := base) F_InvalidHalls TX_InvalidHalls no_InvalidHalls XB_InvalidInput (PySem.W.mg_of X G a_InvalidInput)
  have F_InvalidDoors := fun_mk (st := s_InvalidDoors) l_InvalidDoors k_InvalidDoors p_InvalidDoors
  have Bx_InvalidDoors := F_InvalidDoors.binds (ps := ["self", "position"]) fun _ _ _ _ _ _ us hl => match us, hl with | [_, _], _ => rfl
  have TX_InvalidDoors : XCls K "ValueError" "ValueError.__new__" C_InvalidDoors := ⟨⟨_, _, _, _, _, _, _, _, _, _, _, _, _, _, _, lx_InvalidDoors, by simp [ownsX, xTail]⟩, sa_InvalidDoors, ex_InvalidDoors, ty_InvalidDoors, kc_InvalidDoors⟩
  have Mx_InvalidDoors : XMk K "ValueError" "ValueError.__new__" C_InvalidDoors f_InvalidDoors := ⟨TX_InvalidDoors, ic_InvalidDoors, tf_InvalidDoors⟩
  have Gx_InvalidDoors := xi_InvalidDoors (P := P) (w := w) (mg := mg) (base := base) F_InvalidDoors TX_InvalidDoors no_InvalidDoors XB_InvalidInput (PySem.W.mg_of X G a_InvalidInput)
  have F_Unreachable := fun_mk (st := s_Unreachable) l_Unreachable k_Unreachable p_Unreachable
  have Bx_Unreachable := F_Unreachable.binds (ps := ["self", "hall"]) fun _ _ _ _ _ _ us hl => match us, hl with | [_, _], _ => rfl
  have TX_Unreachable : XCls K "RuntimeError" "RuntimeError.__new__" C_Unreachable := ⟨⟨_, _, _, _, _, _, _, _, _, _, _, _, _, _, _, lx_Unreachable, by simp [ownsX, xTail]⟩, sa_Unreachable, ex_Unreachable, ty_Unreachable, kc_Unreachable⟩
  have Mx_Unreachable : XMk K "RuntimeError" "RuntimeError.__new__" C_Unreachable f_Unreachable := ⟨TX_Unreachable, ic_Unreachable, tf_Unreachable⟩
  have Gx_Unreachable := xi_Unreachable (P := P) (w := w) (mg := mg) (base := base) F_Unreachable TX_Unreachable no_Unreachable XB_StateError (PySem.W.mg_of X G a_StateError)
  have G__law_cube : Cal P w K mg base cl "_law_cube" 1 0 L02.m__law_cube _ _ ps__law_cube := ⟨ok__law_cube T F__law_cube, PySem.W.mg_of X G a__law_cube, p__law_cube, rfl, fnM_ok, b__law_cube⟩
  have G_is_integer : Cal P w K mg base cl "is_integer" 1 3 L02.m_is_integer _ _ ps_is_integer := ⟨ok_is_integer T F_is_integer, PySem.W.mg_of X G a_is_integer, p_is_integer, rfl, fnM_ok, b_is_integer⟩
  have G_is_colour : Cal P w K mg base cl "is_colour" 1 1 L02.m_is_colour _ _ ps_is_colour := ⟨ok_is_colour T F_is_colour, PySem.W.mg_of X G a_is_colour, p_is_colour, rfl, fnM_ok, b_is_colour⟩
  have G_is_door : Cal P w K mg base cl "is_door" 2 2 L02.m_is_door _ _ ps_is_door := ⟨ok_is_door T G_is_colour G_is_integer F_is_door, PySem.W.mg_of X G a_is_door, p_is_door, rfl, fnM_ok, b_is_door⟩
  have G_ends_of : Cal P w K mg base cl "ends_of" 3 2 L02.m_ends_of _ _ ps_ends_of := ⟨ok_ends_of T G_is_door Mx_InvalidDoors Gx_InvalidDoors Bx_InvalidDoors F_ends_of, PySem.W.mg_of X G a_ends_of, p_ends_of, rfl, fnM_ok, b_ends_of⟩
  have G_reached_through : Cal P w K mg base cl "reached_through" 1 2 L02.m_reached_through _ _ ps_reached_through := ⟨ok_reached_through T F_reached_through, PySem.W.mg_of X G a_reached_through, p_reached_through, rfl, fnM_ok, b_reached_through⟩
  have G_House_colours : CalF P w K mg base cl 1 1 L02.m_House_colours _ _ ps_House_colours := ⟨ok_House_colours T F_House_colours, rfl, fnM_ok⟩
  have M_House_colours : Meth K C_House "colours" f_House_colours := ⟨i_House_colours, fn_House_colours, p_House_colours⟩
  have S_House_colours := i_House_colours
  have I_House_colours := fn_House_colours
  have B_House_colours := b_House_colours
  have G_House___init__ : CalF P w K mg base cl 4 3 L02.m_House___init__ _ _ ps_House___init__ := ⟨ok_House___init__ T G_House_colours G_ends_of G_is_integer G_reached_through M_House_colours d_House_colours_1 Mx_InvalidHalls Gx_InvalidHalls Bx_InvalidHalls Mx_Unreachable Gx_Unreachable Bx_Unreachable F_House___init__, rfl, fnM_ok⟩
  have M_House___init__ : Meth K C_House "__init__" f_House___init__ := ⟨i_House___init__, fn_House___init__, p_House___init__⟩
  have S_House___init__ := i_House___init__
  have I_House___init__ := fn_House___init__
  have B_House___init__ := b_House___init__
  have N_House : Mk K C_House f_House___init__ := ⟨mk_House, i_House___init__, fn_House___init__, kc_House⟩
  have G_House___len__ : CalF P w K mg base cl 1 1 L02.m_House___len__ _ _ ps_House___len__ := ⟨ok_House___len__ T F_House___len__, rfl, fnM_ok⟩
  have M_House___len__ : Meth K C_House "__len__" f_House___len__ := ⟨i_House___len__, fn_House___len__, p_House___len__⟩
  have S_House___len__ := i_House___len__
  have I_House___len__ := fn_House___len__
  have B_House___len__ := b_House___len__
  have G_House___repr__ : CalF P w K mg base cl 1 1 L02.m_House___repr__ _ _ ps_House___repr__ := ⟨ok_House___repr__ T F_House___repr__, rfl, fnM_ok⟩
  have M_House___repr__ : Meth K C_House "__repr__" f_House___repr__ := ⟨i_House___repr__, fn_House___repr__, p_House___repr__⟩
  have S_House___repr__ := i_House___repr__
  have I_House___repr__ := fn_House___repr__
  have B_House___repr__ := b_House___repr__
  have G__law_right : Cal P w K mg base cl "_law_right" 6 2 L02.m__law_right _ _ ps__law_right := ⟨ok__law_right T G_House___init__ G_House___len__ G_House___repr__ G_House_colours M_House_colours N_House S_House___len__ I_House___len__ B_House___len__ S_House___repr__ I_House___repr__ B_House___repr__ NB_House d_House___init___1_doors_halls d_House___init___2_doors d_House___init___3 d_House_colours_1 F__law_right, PySem.W.mg_of X G a__law_right, p__law_right, rfl, fnM_ok, b__law_right⟩
  have G__law_fixed_right : Cal P w K mg base cl "_law_fixed_right" 7 0 L02.m__law_fixed_right _ _ ps__law_fixed_right := ⟨ok__law_fixed_right T G_House___init__ G_House___len__ G_House_colours G__law_cube G__law_right M_House_colours N_House S_House___len__ I_House___len__ B_House___len__ d_House___init___1_halls_D d_House___init___2_D d_House_colours_1 F__law_fixed_right, PySem.W.mg_of X G a__law_fixed_right, p__law_fixed_right, rfl, fnM_ok, b__law_fixed_right⟩
  have G__law_purse : Cal P w K mg base cl "_law_purse" 1 2 L02.m__law_purse _ _ ps__law_purse := ⟨ok__law_purse T F__law_purse, PySem.W.mg_of X G a__law_purse, p__law_purse, rfl, fnM_ok, b__law_purse⟩
  have G__law_draw : Cal P w K mg base cl "_law_draw" 1 2 L02.m__law_draw _ _ ps__law_draw := ⟨ok__law_draw T F__law_draw, PySem.W.mg_of X G a__law_draw, p__law_draw, rfl, fnM_ok, b__law_draw⟩
  have G__law_words : Cal P w K mg base cl "_law_words" 2 2 L02.m__law_words _ _ ps__law_words := ⟨ok__law_words T G__law_draw F__law_words, PySem.W.mg_of X G a__law_words, p__law_words, rfl, fnM_ok, b__law_words⟩
  have G__law_grown : Cal P w K mg base cl "_law_grown" 2 3 L02.m__law_grown _ _ ps__law_grown := ⟨ok__law_grown T G__law_draw F__law_grown, PySem.W.mg_of X G a__law_grown, p__law_grown, rfl, fnM_ok, b__law_grown⟩
  have G__law_doors : Cal P w K mg base cl "_law_doors" 1 1 L02.m__law_doors _ _ ps__law_doors := ⟨ok__law_doors T F__law_doors, PySem.W.mg_of X G a__law_doors, p__law_doors, rfl, fnM_ok, b__law_doors⟩
  have G__law_drawn : Cal P w K mg base cl "_law_drawn" 3 1 L02.m__law_drawn _ _ ps__law_drawn := ⟨ok__law_drawn T G__law_doors G__law_draw G__law_grown G__law_words F__law_drawn, PySem.W.mg_of X G a__law_drawn, p__law_drawn, rfl, fnM_ok, b__law_drawn⟩
  exact (ok_law (cl := cl) T G__law_drawn G__law_fixed_right G__law_purse G__law_right F_law).law good
end L02W
end TxtL02W

section TxtL02H
set_option Elab.async false
set_option linter.all false
set_option maxRecDepth 100000
/-! L02H: houses: doors, the ends of doors, the colours. -/
namespace L02
open PySem PySem.Spec Dm

theorem small {n : Nat} (h : n ≤ 1000000) : n ≤ 16777216 := by omega
abbrev abcS : Str := "abcdefghijklmnopqrstuvwxyz"
theorem abc : abcS.cps.toList = (List.range 26).map (97 + ·) := by decide +kernel
theorem abc_iff {c : Nat} : c ∈ abcS.cps.toList ↔ 97 ≤ c ∧ c ≤ 122 := by
  rw [abc, List.mem_map]
  constructor
  · rintro ⟨a, ha, rfl⟩; have := List.mem_range.mp ha; omega
  · intro h; exact ⟨c - 97, List.mem_range.mpr (by omega), by omega⟩
/-- a colour: one to six small letters -/
def colS (z : Str) : Bool := decide (1 ≤ z.length ∧ z.length ≤ 6) && z.cps.toList.all fun c => decide (c ∈ abcS.cps.toList)
theorem colS_len {z : Str} (h : colS z = true) : z.length ≤ 6 := by
  unfold colS at h
  rw [Bool.and_eq_true, decide_eq_true_eq] at h
  exact h.1.2
theorem colS_asc {z : Str} (h : colS z = true) : AscS z := fun c hc => by
  unfold colS at h
  rw [Bool.and_eq_true, List.all_eq_true] at h
  have := abc_iff.mp (of_decide_eq_true (h.2 c hc))
  omega
theorem letters_lc {e : En → Ou R} {i : Nat} {ρ : En} (z : Str) (hz : z.length ≤ 16777216) (h : ∀ c, tnL (gNm i) tTrue e [i] (.str ⟨#[c]⟩) ρ = .ok (some (.bl (decide (c ∈ abcS.cps.toList)))) ρ) :
    lcL (gNm i) tTrue e [i] (z.cps.toList.map fun c => D.str ⟨#[c]⟩) [] ρ = .ok ((z.cps.toList.map fun c => decide (c ∈ abcS.cps.toList)).map D.bl) ρ := by
  rw [lc_map (fun d => match d with
    | .str y => (match y.cps.toList with
      | [c] => some (.bl (decide (c ∈ abcS.cps.toList)))
      | _ => none)
    | _ => none) _ (fun d hd => by
      obtain ⟨c, _, rfl⟩ := List.mem_map.mp hd
      exact h c) (by simpa [Str.length] using hz)]
  congr 1
  rw [List.filterMap_map]
  induction z.cps.toList with
  | nil => rfl
  | cons c l ih => simpa using ih
theorem is_colour_str (z : Str) (hz : z.length ≤ 16777216) : m_is_colour [some (.v (.str z))] = .ok (.v (.bl (colS z))) [some (.v (.str z))] := by
  have k := letters_lc (e := is_colour_e1) (i := 1) (ρ := [some (.v (.str z)), none]) z hz fun c => by simp [is_colour_e1]
  have ai : ∀ (l : List Nat) (f : Nat → Bool), (l.map f).all id = l.all f := fun l f => by induction l <;> simp
  have bb : ∀ bs : List Bool, blsD (bs.map D.bl) = some bs := fun bs => blsD_map bs
  by_cases h1 : (1 : Int) ≤ (z.length : Nat)
  · by_cases h2 : ((z.length : Nat) : Int) ≤ 6
    · have hc : colS z = z.cps.toList.all fun c => decide (c ∈ abcS.cps.toList) := by
        unfold colS
        rw [decide_eq_true (by omega), Bool.true_and]
      simp [m_is_colour, b_is_colour, pn_is_colour, fnM_ap, fin_ap, sSeq_ap, argOk, isT_self, hz, h1, h2, is_colour_t1, xLc_ap, k, bb, hc, ai, -List.map_map]
    · have hc : colS z = false := by
        unfold colS
        rw [decide_eq_false (by omega), Bool.false_and]
      simp [m_is_colour, b_is_colour, pn_is_colour, fnM_ap, fin_ap, sSeq_ap, argOk, isT_self, hz, h1, h2, hc]
  · have hc : colS z = false := by
      unfold colS
      rw [decide_eq_false (by omega), Bool.false_and]
    simp [m_is_colour, b_is_colour, pn_is_colour, fnM_ap, fin_ap, sSeq_ap, argOk, isT_self, hz, h1, hc]
theorem is_integer_int (a lo hi : Int) : m_is_integer [some (.v (.int a)), some (.v (.int lo)), some (.v (.int hi))] = .ok (.v (.bl (decide (lo ≤ a ∧ a ≤ hi)))) [some (.v (.int a)), some (.v (.int lo)), some (.v (.int hi))] := by
  have i1 : isT "int" "int" = true := by decide
  have i2 : isT "int" "bool" = false := by decide
  by_cases h : lo ≤ a
  · simp [m_is_integer, b_is_integer, pn_is_integer, fnM_ap, fin_ap, argOk, i1, i2, h]
  · simp [m_is_integer, b_is_integer, pn_is_integer, fnM_ap, fin_ap, argOk, i1, i2, h]
/-! ### doors -/
structure Dr where
  a : Nat
  b : Nat
  w : Str
  deriving DecidableEq
def Dr.d (x : Dr) : D := .tup [.int (x.a : Int), .int (x.b : Int), .str x.w]
def Dr.lt (x y : Dr) : Prop := x.a < y.a ∨ (x.a = y.a ∧ (x.b < y.b ∨ (x.b = y.b ∧ x.w.cps.toList < y.w.cps.toList)))
/-- a door of two of n halls -/
structure Dr.Ok (n : Nat) (x : Dr) : Prop where
  ab : x.a < x.b
  bn : x.b < n
  co : colS x.w = true
theorem is_door_ok {n : Nat} {x : Dr} (h : x.Ok n) : m_is_door [some (.v (.int (n : Int))), some (.v x.d)] = .ok (.v (.bl true)) [some (.v (.int (n : Int))), some (.v x.d)] := by
  have i1 : isT "tuple" "tuple" = true := by decide
  obtain ⟨h1, h2, h3⟩ := h
  have e1 := is_integer_int (x.a : Int) 0 ((n : Int) - 1)
  have e2 := is_integer_int (x.b : Int) 0 ((n : Int) - 1)
  have d1 : decide ((0 : Int) ≤ (x.a : Int) ∧ (x.a : Int) ≤ (n : Int) - 1) = true := decide_eq_true (by omega)
  have d2 : decide ((0 : Int) ≤ (x.b : Int) ∧ (x.b : Int) ≤ (n : Int) - 1) = true := decide_eq_true (by omega)
  rw [d1] at e1; rw [d2] at e2
  have e3 := is_colour_str x.w (by have := colS_len h3; omega)
  rw [h3] at e3
  simp [m_is_door, b_is_door, pn_is_door, fnM_ap, fin_ap, sSeq_ap, argOk, i1, Dr.d, is_door_t3, is_door_t2, is_door_t1, e1, e2, e3, h1]
theorem str_eq {a b : Str} (h : a.cps.toList = b.cps.toList) : a = b := str_ext h
theorem lexD_lt {x y : Dr} (h : x.lt y) : lexD [.int (y.a : Int), .int (y.b : Int), .str y.w] [.int (x.a : Int), .int (x.b : Int), .str x.w] = false := by
  unfold Dr.lt at h
  rw [lexD_ii, lexD_ii, lexD_ss, lexD_nil]
  rcases h with h | ⟨h1, h | ⟨h2, h⟩⟩
  · rw [if_neg (by omega)]; exact decide_eq_false (by omega)
  · rw [if_pos (by omega), if_neg (by omega)]; exact decide_eq_false (by omega)
  · have : ¬ y.w = x.w := fun e => by rw [e] at h; exact List.lt_irrefl _ h
    rw [if_pos (by omega), if_pos (by omega), if_neg this, decide_eq_true h]; rfl
/-! ### what ends_of leaves -/
def endsL (ds : List Dr) : List (List L2.Key × D) := ds.flatMap fun x => [(ek x.a x.w, .int (x.b : Int)), (ek x.b x.w, .int (x.a : Int))]
def addC (cs : List Str) (w : Str) : List Str := if w ∈ cs then cs else cs ++ [w]
def colsL (ds : List Dr) : List Str := ds.foldl (fun cs x => addC cs x.w) []
def Dr.apart (x y : Dr) : Prop := x.w = y.w → x.a ≠ y.a ∧ x.a ≠ y.b ∧ x.b ≠ y.a ∧ x.b ≠ y.b
/-- the doors of a house, but for reaching -/
structure Doors (n : Nat) (ds : List Dr) : Prop where
  ok : ∀ x ∈ ds, x.Ok n
  asc : ds.Pairwise Dr.lt
  free : ds.Pairwise Dr.apart
  few : (colsL ds).length ≤ 16
  many : ds.length ≤ 1000
theorem addC_len (cs : List Str) (w : Str) : cs.length ≤ (addC cs w).length := by
  unfold addC; split <;> simp
theorem colsL_app (ds es : List Dr) : colsL (ds ++ es) = es.foldl (fun cs x => addC cs x.w) (colsL ds) := by
  unfold colsL; rw [List.foldl_append]
theorem fold_len : ∀ (es : List Dr) (cs : List Str), cs.length ≤ (es.foldl (fun cs x => addC cs x.w) cs).length
  | [], cs => Nat.le_refl _
  | x :: es, cs => Nat.le_trans (addC_len cs x.w) (fold_len es _)
theorem colsL_take {ds : List Dr} (i : Nat) : (colsL (ds.take i)).length ≤ (colsL ds).length := by
  conv => rhs; rw [← List.take_append_drop i ds, colsL_app]
  exact fold_len _ _
theorem endsL_new {ds : List Dr} {x : Dr} (h : ∀ y ∈ ds, y.apart x) : (∀ p ∈ endsL ds, p.1 ≠ ek x.a x.w) ∧ ∀ p ∈ endsL ds, p.1 ≠ ek x.b x.w := by
  refine ⟨fun p hp e => ?_, fun p hp e => ?_⟩
  · obtain ⟨y, hy, hm⟩ := List.mem_flatMap.mp hp
    have q := h y hy
    simp only [List.mem_cons, List.not_mem_nil, or_false] at hm
    rcases hm with rfl | rfl
    · obtain ⟨e1, e2⟩ := ek_inj e; exact (q e2).1 e1
    · obtain ⟨e1, e2⟩ := ek_inj e; exact (q e2).2.2.1 e1
  · obtain ⟨y, hy, hm⟩ := List.mem_flatMap.mp hp
    have q := h y hy
    simp only [List.mem_cons, List.not_mem_nil, or_false] at hm
    rcases hm with rfl | rfl
    · obtain ⟨e1, e2⟩ := ek_inj e; exact (q e2).2.1 e1
    · obtain ⟨e1, e2⟩ := ek_inj e; exact (q e2).2.2.2 e1
theorem endsL_len (ds : List Dr) : (endsL ds).length = 2 * ds.length := by
  unfold endsL
  induction ds with
  | nil => rfl
  | cons x ds ih => rw [List.flatMap_cons, List.length_append, ih]; simp; omega
theorem endsL_take {ds : List Dr} {i : Nat} {x : Dr} (h : ds[i]? = some x) : endsL (ds.take (i + 1)) = endsL (ds.take i) ++ [(ek x.a x.w, .int (x.b : Int)), (ek x.b x.w, .int (x.a : Int))] := by
  obtain ⟨hi, rfl⟩ := List.getElem?_eq_some_iff.mp h
  unfold endsL
  rw [List.take_succ_eq_append_getElem hi, List.flatMap_append]
  simp
theorem colsL_succ {ds : List Dr} {i : Nat} {x : Dr} (h : ds[i]? = some x) : colsL (ds.take (i + 1)) = addC (colsL (ds.take i)) x.w := by
  obtain ⟨hi, rfl⟩ := List.getElem?_eq_some_iff.mp h
  rw [List.take_succ_eq_append_getElem hi, colsL_app]
  rfl
theorem turn_ends {n : Nat} {ds : List Dr} (H : Doors n ds) {i : Nat} {x : Dr} (hx : ds[i]? = some x) (p4 p5 p6 p7 p8 : Option C) :
    ∃ q4 q5 q6 q7 q8, tnF (gTp 2 (gsCons (gNm 4) (gsCons (gNm 5) gsNil))) ends_of_l1 (.tup [.int (i : Int), x.d]) [some (.v (.int (n : Int))), some (.v (.tup (ds.map Dr.d))), some (.dT (endsL (ds.take i))), some (.L ((colsL (ds.take i)).map .str)), p4, p5, p6, p7, p8] =
      .ok .nx [some (.v (.int (n : Int))), some (.v (.tup (ds.map Dr.d))), some (.dT (endsL (ds.take (i + 1)))), some (.L ((colsL (ds.take (i + 1))).map .str)), q4, q5, q6, q7, q8] := by
  obtain ⟨hi, rfl⟩ := List.getElem?_eq_some_iff.mp hx
  have hok := H.ok _ (List.getElem_mem hi)
  have e1 := is_door_ok hok
  have hfree : ∀ y ∈ ds.take i, y.apart ds[i] := fun y hy => by
    obtain ⟨j, hj, rfl⟩ := List.mem_iff_getElem.mp hy
    rw [List.length_take] at hj
    rw [List.getElem_take]
    exact List.pairwise_iff_getElem.mp H.free j i (by omega) hi (by omega)
  obtain ⟨f1, f2⟩ := endsL_new hfree
  have v1 := valD_none f1
  have v2 := valD_none f2
  have p1 := putD_new (d := .int (ds[i].b : Int)) f1
  have f2' : ∀ p ∈ endsL (ds.take i) ++ [(ek ds[i].a ds[i].w, D.int (ds[i].b : Int))], p.1 ≠ ek ds[i].b ds[i].w := fun p hp => by
    rcases List.mem_append.mp hp with hp | hp
    · exact f2 p hp
    · simp only [List.mem_cons, List.not_mem_nil, or_false] at hp
      subst hp
      intro e
      have := (ek_inj e).1
      have := hok.ab
      omega
  have p2 := putD_new (d := .int (ds[i].a : Int)) f2'
  have few : (colsL (ds.take (i + 1))).length ≤ 16 := Nat.le_trans (colsL_take _) H.few
  have lz : (endsL (ds.take i)).length ≤ 2000 := by
    rw [endsL_len, List.length_take]
    have := H.many
    omega
  rw [endsL_take hx]
  rw [colsL_succ hx] at few ⊢
  generalize endsL (ds.take i) = es at *
  generalize colsL (ds.take i) = cs at *
  have prev : i > 0 → ∃ y : Dr, L2.atI (ds.map Dr.d) ((i : Int) - 1) = some y.d ∧ y.lt ds[i] := fun h0 => by
    have hj : i - 1 < ds.length := by omega
    refine ⟨ds[i - 1], ?_, List.pairwise_iff_getElem.mp H.asc (i - 1) i hj hi (by omega)⟩
    rw [show (i : Int) - 1 = ((i - 1 : Nat) : Int) by omega, atI_nat, List.getElem?_map, List.getElem?_eq_getElem hj]
    rfl
  generalize ds[i] = x at *
  generalize ds.map Dr.d = dl at *
  refine ⟨some (.v (.int (i : Int))), some (.v x.d), some (.v (.int (x.a : Int))), some (.v (.int (x.b : Int))), some (.v (.str x.w)), ?_⟩
  have g : gTp 2 (gsCons (gNm 4) (gsCons (gNm 5) gsNil)) (.tup [.int (i : Int), x.d]) [some (.v (.int (n : Int))), some (.v (.tup dl)), some (.dT es), some (.L (cs.map .str)), p4, p5, p6, p7, p8] =
      .ok () [some (.v (.int (n : Int))), some (.v (.tup dl)), some (.dT es), some (.L (cs.map .str)), some (.v (.int (i : Int))), some (.v x.d), p6, p7, p8] := by simp
  rw [tnF_ap, g, Ou.bn_ok]
  unfold ends_of_l1
  rw [sq (ρ2 := [some (.v (.int (n : Int))), some (.v (.tup dl)), some (.dT es), some (.L (cs.map .str)), some (.v (.int (i : Int))), some (.v x.d), p6, p7, p8])]
  rotate_left
  · by_cases h0 : i > 0
    · obtain ⟨y, y1, y2⟩ := prev h0
      have y3 : leTD x.d y.d = some (.v (.bl false)) := by
        have := lexD_lt y2
        unfold Dr.d
        rw [leTD_ap, this]
        rfl
      simp [e1, h0, y1, y3, -leTD_ap]
    · simp [e1, h0]
  unfold ends_of_t5
  rw [sq (ρ2 := [some (.v (.int (n : Int))), some (.v (.tup dl)), some (.dT es), some (.L (cs.map .str)), some (.v (.int (i : Int))), some (.v x.d), some (.v (.int (x.a : Int))), some (.v (.int (x.b : Int))), some (.v (.str x.w))])]
  rotate_left
  · simp [Dr.d]
  unfold ends_of_t4
  rw [sq (ρ2 := [some (.v (.int (n : Int))), some (.v (.tup dl)), some (.dT es), some (.L ((addC cs x.w).map .str)), some (.v (.int (i : Int))), some (.v x.d), some (.v (.int (x.a : Int))), some (.v (.int (x.b : Int))), some (.v (.str x.w))])]
  rotate_left
  · by_cases hw : x.w ∈ cs
    · simp [hw, addC]
    · have : cs.length < 16777216 := by
        unfold addC at few
        rw [if_neg hw, List.length_append] at few
        omega
      simp [hw, addC, this]
  unfold ends_of_t3
  rw [sq (ρ2 := [some (.v (.int (n : Int))), some (.v (.tup dl)), some (.dT es), some (.L ((addC cs x.w).map .str)), some (.v (.int (i : Int))), some (.v x.d), some (.v (.int (x.a : Int))), some (.v (.int (x.b : Int))), some (.v (.str x.w))])]
  rotate_left
  · have few' : ¬ ((addC cs x.w).length : Int) > 16 := by omega
    simp [in_ek, v1, v2, few']
  unfold ends_of_t2
  have z1 : es.length < 16777216 := by omega
  have z2 : (es ++ [(ek x.a x.w, D.int (x.b : Int))]).length < 16777216 := by simp; omega
  rw [sq (ρ2 := [some (.v (.int (n : Int))), some (.v (.tup dl)), some (.dT (es ++ [(ek x.a x.w, .int (x.b : Int))])), some (.L ((addC cs x.w).map .str)), some (.v (.int (i : Int))), some (.v x.d), some (.v (.int (x.a : Int))), some (.v (.int (x.b : Int))), some (.v (.str x.w))])]
  rotate_left
  · simp [put_ek, p1, z1]
  unfold ends_of_t1
  simp [put_ek, p2, z2, -List.length_append]
theorem ends_of_ok {n : Nat} {ds : List Dr} (H : Doors n ds) : m_ends_of [some (.v (.int (n : Int))), some (.v (.tup (ds.map Dr.d)))] = .ok (.o (.dT (endsL ds))) [some (.v (.int (n : Int))), some (.v (.tup (ds.map Dr.d)))] := by
  have i1 : isT "tuple" "tuple" = true := by decide
  obtain ⟨ρ', e1, q4, q5, q6, q7, q8, rfl⟩ := for_enum (g := gTp 2 (gsCons (gNm 4) (gsCons (gNm 5) gsNil))) (b := ends_of_l1) (ds.map Dr.d)
    (fun i ρ => ∃ p4 p5 p6 p7 p8, ρ = [some (.v (.int (n : Int))), some (.v (.tup (ds.map Dr.d))), some (.dT (endsL (ds.take i))), some (.L ((colsL (ds.take i)).map .str)), p4, p5, p6, p7, p8]) (fun i d ρ hd ⟨p4, p5, p6, p7, p8, e⟩ => by
      subst e
      rw [List.getElem?_map] at hd
      obtain ⟨x, hx, rfl⟩ := Option.map_eq_some_iff.mp hd
      obtain ⟨q4, q5, q6, q7, q8, e⟩ := turn_ends H hx p4 p5 p6 p7 p8
      exact ⟨_, e, q4, q5, q6, q7, q8, rfl⟩) (ρ := [some (.v (.int (n : Int))), some (.v (.tup (ds.map Dr.d))), some (.dT []), some (.L []), none, none, none, none, none]) ⟨none, none, none, none, none, rfl⟩
  rw [List.length_map, List.take_of_length_le (Nat.le_refl _)] at e1
  simp [m_ends_of, b_ends_of, pn_ends_of, fnM_ap, fin_ap, sSeq_ap, argOk, i1, ends_of_t8, ends_of_t7, ends_of_t6, sFor_ap, e1]
/-! ### the colours -/
theorem addK_str (cs : List Str) (w : Str) : addK (cs.map Sum.inr) (Sum.inr w : L2.Key) = (addC cs w).map Sum.inr := by
  unfold addK addC
  by_cases h : w ∈ cs
  · rw [if_pos h, if_pos (by simpa using h)]
  · rw [if_neg h, if_neg (by simpa using h)]
    simp
theorem scan_num : scanBound = 4096 := rfl
theorem cols_fold (h : Option C) : ∀ (ds : List Dr) (cs : List Str), (ds.foldl (fun cs x => addC cs x.w) cs).length ≤ 1000 →
    acL adK (gNm 1) tTrue (bOne House_colours_e1) [1] (ds.map Dr.d) (cs.map Sum.inr) [h, none] = .ok ((ds.foldl (fun cs x => addC cs x.w) cs).map Sum.inr) [h, none]
  | [], cs, _ => rfl
  | x :: ds, cs, hc => by
    have hl : cs.length ≤ 1000 := Nat.le_trans (fold_len (x :: ds) cs) hc
    have hb : (cs.map (Sum.inr : Str → L2.Key)).length + 1 < scanBound := by rw [List.length_map, scan_num]; omega
    have ih := cols_fold h ds (addC cs x.w) hc
    have e : bOne House_colours_e1 [h, some (.v x.d)] = .ok [.str x.w] [h, some (.v x.d)] := by
      simp [bOne, House_colours_e1, Dr.d, L2.atI, L2.ixN]
    have a : adK (cs.map Sum.inr) [.str x.w] = some ((addC cs x.w).map Sum.inr) := by
      unfold adK
      simp only [keyD_s]
      rw [if_pos hb, addK_str]
    rw [List.map_cons]
    unfold acL
    simp only [gNm_ap, List.set_cons_succ, List.set_cons_zero, Ou.bn_ok, tTrue_ap, if_true, e, a, wipE_cons, wipE_nil]
    exact ih
def colsOf (ds : List Dr) : List Str := sortS (colsL ds)
theorem colours_ok {ends : D} {n : Int} {ds : List Dr} (hc : (colsL ds).length ≤ 16) : m_House_colours [some (.v (hD ends n (.tup (ds.map Dr.d))))] = .ok (.v (.tup ((colsOf ds).map .str))) [some (.v (hD ends n (.tup (ds.map Dr.d))))] := by
  have e := cols_fold (some (.v (hD ends n (.tup (ds.map Dr.d))))) ds [] (by show (colsL ds).length ≤ 1000; omega)
  have e2 : ((colsL ds).map (Sum.inr : Str → L2.Key)).map kD = (colsL ds).map D.str := by rw [List.map_map]; rfl
  have so : sortOk ((colsL ds).map D.str) = true := sortOk_strs (by rw [sizeLine_num]; omega)
  have e' : acL adK (gNm 1) tTrue (bOne House_colours_e1) [1] (ds.map Dr.d) [] [some (.v (hD ends n (.tup (ds.map Dr.d)))), none] = .ok ((colsL ds).map Sum.inr) [some (.v (hD ends n (.tup (ds.map Dr.d)))), none] := e
  simp [m_House_colours, b_House_colours, pn_House_colours, fnM_ap, fin_ap, argOk, xSetC_ap, fld_doors, e', e2, so, colsOf, -List.map_map]
end L02
end TxtL02H

section TxtL02R
set_option Elab.async false
set_option linter.all false
set_option maxRecDepth 100000
/-! L02R: the halls that can be reached; House.__init__. -/
namespace L02
open PySem PySem.Spec Dm

/-- the other ends stand for halls below n -/
def EndsOk (n : Nat) (es : List (List L2.Key × D)) : Prop := ∀ k d, valD es k = some d → ∃ b : Nat, b < n ∧ d = .int (b : Int)
def othD (es : List (List L2.Key × D)) (h : Nat) (w : Str) : Nat := match valD es (ek h w) with
  | some (.int b) => b.toNat
  | _ => 0
theorem othD_some {es : List (List L2.Key × D)} {h : Nat} {w : Str} {b : Nat} (e : valD es (ek h w) = some (.int (b : Int))) : othD es h w = b := by
  unfold othD; rw [e]; simp
theorem othD_none {es : List (List L2.Key × D)} {h : Nat} {w : Str} (e : valD es (ek h w) = none) : othD es h w = 0 := by
  unfold othD; rw [e]
theorem get_oth {n : Nat} {es : List (List L2.Key × D)} (hE : EndsOk n es) (h : Nat) (w : Str) : (valD es (ek h w) = none ∧ othD es h w = 0) ∨ ∃ b : Nat, b < n ∧ valD es (ek h w) = some (.int (b : Int)) ∧ othD es h w = b := by
  cases e : valD es (ek h w) with
  | none => exact .inl ⟨rfl, othD_none e⟩
  | some d =>
    obtain ⟨b, hb, rfl⟩ := hE _ _ e
    exact .inr ⟨b, hb, rfl, othD_some e⟩
def addN (fs : List Nat) (b : Nat) : List Nat := if b ∈ fs then fs else fs ++ [b]
def stepN (es : List (List L2.Key × D)) (cs : List Str) (h : Nat) (fs : List Nat) : List Nat := cs.foldl (fun fs c => addN fs (othD es h c)) fs
theorem addN_pre (fs : List Nat) (b : Nat) : fs <+: addN fs b := by
  unfold addN; split
  · exact List.prefix_refl _
  · exact List.prefix_append _ _
theorem addN_mem (fs : List Nat) (b : Nat) : b ∈ addN fs b := by
  unfold addN; split
  · assumption
  · simp
theorem addN_or {fs : List Nat} {b x : Nat} (h : x ∈ addN fs b) : x ∈ fs ∨ x = b := by
  unfold addN at h; split at h
  · exact .inl h
  · simpa using h
theorem addN_nodup {fs : List Nat} {b : Nat} (h : fs.Nodup) : (addN fs b).Nodup := by
  unfold addN; split
  · exact h
  · rename_i hb
    rw [List.nodup_append]
    refine ⟨h, by simp, fun a ha c hc => ?_⟩
    simp only [List.mem_singleton] at hc
    subst hc
    exact fun e => hb (e ▸ ha)
theorem stepN_pre (es : List (List L2.Key × D)) (h : Nat) : ∀ (cs : List Str) (fs : List Nat), fs <+: stepN es cs h fs
  | [], fs => List.prefix_refl _
  | c :: cs, fs => (addN_pre fs _).trans (stepN_pre es h cs _)
theorem stepN_mem (es : List (List L2.Key × D)) (h : Nat) : ∀ (cs : List Str) (fs : List Nat) (c : Str), c ∈ cs → othD es h c ∈ stepN es cs h fs
  | c :: cs, fs, x, hx => by
    rcases List.mem_cons.mp hx with rfl | hx
    · exact (stepN_pre es h cs _).subset (addN_mem fs _)
    · exact stepN_mem es h cs _ x hx
theorem stepN_or (es : List (List L2.Key × D)) (h : Nat) : ∀ (cs : List Str) (fs : List Nat) (x : Nat), x ∈ stepN es cs h fs → x ∈ fs ∨ ∃ c ∈ cs, x = othD es h c
  | [], fs, x, hx => .inl hx
  | c :: cs, fs, x, hx => by
    rcases stepN_or es h cs _ x hx with z | ⟨c', hc, rfl⟩
    · rcases addN_or z with z | rfl
      · exact .inl z
      · exact .inr ⟨c, List.mem_cons_self, rfl⟩
    · exact .inr ⟨c', List.mem_cons_of_mem _ hc, rfl⟩
theorem stepN_nodup (es : List (List L2.Key × D)) (h : Nat) : ∀ (cs : List Str) (fs : List Nat), fs.Nodup → (stepN es cs h fs).Nodup
  | [], fs, hf => hf
  | c :: cs, fs, hf => stepN_nodup es h cs _ (addN_nodup hf)
theorem stepN_succ {es : List (List L2.Key × D)} {h : Nat} {cs : List Str} {i : Nat} {c : Str} (hc : cs[i]? = some c) (fs : List Nat) : stepN es (cs.take (i + 1)) h fs = addN (stepN es (cs.take i) h fs) (othD es h c) := by
  obtain ⟨hi, rfl⟩ := List.getElem?_eq_some_iff.mp hc
  unfold stepN
  rw [List.take_succ_eq_append_getElem hi, List.foldl_append]
  rfl
theorem nodup_len {n : Nat} {fs : List Nat} (h : fs.Nodup) (hb : ∀ h ∈ fs, h < n) : fs.length ≤ n := by
  have := List.Nodup.length_le_of_subset h (l₂ := List.range n) fun x hx => List.mem_range.mpr (hb x hx)
  simpa using this
theorem prefix_get {α : Type} {l m : List α} {k : Nat} {x : α} (p : l <+: m) (h : l[k]? = some x) : m[k]? = some x := by
  obtain ⟨t, rfl⟩ := p
  rw [List.getElem?_append_left (List.getElem?_eq_some_iff.mp h).1]
  exact h
def intsN (fs : List Nat) : List Int := fs.map fun (h : Nat) => (h : Int)
def natsD (fs : List Nat) : List D := (intsN fs).map D.int
theorem intsN_mem {fs : List Nat} {b : Nat} : (b : Int) ∈ intsN fs ↔ b ∈ fs := by
  unfold intsN
  rw [List.mem_map]
  constructor
  · rintro ⟨a, ha, e⟩
    have : a = b := by omega
    exact this ▸ ha
  · exact fun h => ⟨b, h, rfl⟩
theorem in_nats {neg : Bool} {fs : List Nat} {b : Nat} : inAD neg (.int (b : Int)) (.lst (natsD fs)) = some (.v (.bl (if neg then !decide (b ∈ fs) else decide (b ∈ fs)))) := by
  unfold natsD
  rw [inAD_lI, decide_eq_decide.mpr intsN_mem]
theorem natsD_len (fs : List Nat) : (natsD fs).length = fs.length := by simp [natsD, intsN]
theorem natsD_app (fs : List Nat) (b : Nat) : natsD fs ++ [.int (b : Int)] = natsD (fs ++ [b]) := by simp [natsD, intsN]
theorem natsD_get (fs : List Nat) (k : Nat) : L2.atI (natsD fs) (k : Int) = (fs[k]?).map fun (h : Nat) => D.int (h : Int) := by
  rw [atI_nat, natsD, intsN, List.map_map, List.getElem?_map]; rfl
theorem turn_reach {n : Nat} {es : List (List L2.Key × D)} {cs : List Str} {k h : Nat} (hE : EndsOk n es) (fs : List Nat) (hk : fs[k]? = some h) (hl : ∀ cs', (stepN es cs' h fs).length ≤ 1000 ∨ ¬ cs' <+: cs) {i : Nat} {c : Str} (hc : cs[i]? = some c) (p4 p5 : Option C) :
    ∃ q4 q5, tnF (gNm 4) reached_through_l1 (.str c) [some (.v (.dT es)), some (.v (.tup (cs.map .str))), some (.L (natsD (stepN es (cs.take i) h fs))), some (.v (.int (k : Int))), p4, p5] =
      .ok .nx [some (.v (.dT es)), some (.v (.tup (cs.map .str))), some (.L (natsD (stepN es (cs.take (i + 1)) h fs))), some (.v (.int (k : Int))), q4, q5] := by
  have g1 : L2.atI (natsD (stepN es (cs.take i) h fs)) (k : Int) = some (.int (h : Int)) := by
    rw [natsD_get, prefix_get (stepN_pre es h (cs.take i) fs) hk]; rfl
  have hz : (stepN es (cs.take i) h fs).length ≤ 1000 := (hl (cs.take i)).resolve_right fun z => z (List.take_prefix _ _)
  rw [stepN_succ hc]
  generalize stepN es (cs.take i) h fs = gs at *
  have lz : (natsD gs).length < 16777216 := by rw [natsD_len]; omega
  refine ⟨some (.v (.str c)), some (.v (.int (othD es h c : Int))), ?_⟩
  have gg : getB (.v (.dT es)) (.v (.tup [.int (h : Int), .str c])) (.v (.int 0)) [some (.v (.dT es)), some (.v (.tup (cs.map .str))), some (.L (natsD gs)), some (.v (.int (k : Int))), some (.v (.str c)), p5] =
      .ok (.v (.int (othD es h c : Int))) [some (.v (.dT es)), some (.v (.tup (cs.map .str))), some (.L (natsD gs)), some (.v (.int (k : Int))), some (.v (.str c)), p5] := by
    rw [getB_ap]
    simp only [pk_v, dget_ek]
    rcases get_oth hE h c with ⟨e1, e2⟩ | ⟨b, _, e1, e2⟩
    · rw [e1, e2]; rfl
    · rw [e1, e2]
  rw [tnF_ap, gNm_ap, Ou.bn_ok]
  unfold reached_through_l1
  rw [sq (ρ2 := [some (.v (.dT es)), some (.v (.tup (cs.map .str))), some (.L (natsD gs)), some (.v (.int (k : Int))), some (.v (.str c)), some (.v (.int (othD es h c : Int)))])]
  rotate_left
  · simp [xGet2_ap, g1, gg]
  unfold reached_through_t1 addN
  by_cases hb : othD es h c ∈ gs
  · simp [hb, in_nats]
  · simp [hb, in_nats, lz, natsD_app]
/-- the halls that are found -/
structure Found (n : Nat) (es : List (List L2.Key × D)) (cs : List Str) (fs : List Nat) : Prop where
  nd : fs.Nodup
  lt : ∀ h ∈ fs, h < n
  zero : 0 ∈ fs
  clo : ∀ h ∈ fs, ∀ c ∈ cs, ∀ b : Nat, valD es (ek h c) = some (.int (b : Int)) → b ∈ fs
  least : ∀ S : Nat → Prop, S 0 → (∀ (h : Nat) (c : Str) (b : Nat), c ∈ cs → valD es (ek h c) = some (.int (b : Int)) → S h → S b) → ∀ h ∈ fs, S h
theorem stepN_lt {n : Nat} {es : List (List L2.Key × D)} (hE : EndsOk n es) (hn : 0 < n) {cs : List Str} {h : Nat} {fs : List Nat} (hf : ∀ h ∈ fs, h < n) : ∀ x ∈ stepN es cs h fs, x < n := fun x hx => by
  rcases stepN_or es h cs fs x hx with z | ⟨c, _, rfl⟩
  · exact hf x z
  · rcases get_oth hE h c with ⟨_, e2⟩ | ⟨b, hb, _, e2⟩
    · omega
    · omega
structure ReachI (n : Nat) (es : List (List L2.Key × D)) (cs : List Str) (k : Nat) (fs : List Nat) : Prop where
  nd : fs.Nodup
  lt : ∀ h ∈ fs, h < n
  zero : 0 ∈ fs
  le : k ≤ fs.length
  clo : ∀ i < k, ∀ h, fs[i]? = some h → ∀ c ∈ cs, othD es h c ∈ fs
  least : ∀ S : Nat → Prop, S 0 → (∀ (h : Nat) (c : Str) (b : Nat), c ∈ cs → valD es (ek h c) = some (.int (b : Int)) → S h → S b) → ∀ h ∈ fs, S h
theorem ReachI.step {n : Nat} {es : List (List L2.Key × D)} {cs : List Str} {k h : Nat} {fs : List Nat} (hE : EndsOk n es) (hn : 0 < n) (I : ReachI n es cs k fs) (hk : fs[k]? = some h) : ReachI n es cs (k + 1) (stepN es cs h fs) := by
  have pre := stepN_pre es h cs fs
  have hkl : k < fs.length := (List.getElem?_eq_some_iff.mp hk).1
  refine ⟨stepN_nodup es h cs fs I.nd, stepN_lt hE hn I.lt, pre.subset I.zero, Nat.le_trans hkl pre.length_le, fun i hi h' hh c hc => ?_, fun S s0 sc x hx => ?_⟩
  · by_cases e : i = k
    · subst e
      rw [prefix_get pre hk] at hh
      cases hh
      exact stepN_mem es h cs fs c hc
    · have hi' : i < k := by omega
      have e1 : fs[i]? = some fs[i] := List.getElem?_eq_getElem (by omega)
      rw [prefix_get pre e1] at hh
      cases hh
      exact pre.subset (I.clo i hi' _ e1 c hc)
  · rcases stepN_or es h cs fs x hx with z | ⟨c, hc, rfl⟩
    · exact I.least S s0 sc x z
    · rcases get_oth hE h c with ⟨_, e2⟩ | ⟨b, _, e1, e2⟩
      · rw [e2]; exact s0
      · rw [e2]; exact sc h c b hc e1 (I.least S s0 sc h (List.mem_of_getElem? hk))
theorem reached_ok {n : Nat} {es : List (List L2.Key × D)} {cs : List Str} (hE : EndsOk n es) (hn : 0 < n) (hm : n ≤ 64) : ∃ fs, Found n es cs fs ∧
    m_reached_through [some (.v (.dT es)), some (.v (.tup (cs.map .str)))] = .ok (.o (.L ((sortI (intsN fs)).map .int))) [some (.v (.dT es)), some (.v (.tup (cs.map .str)))] := by
  obtain ⟨k', ρ', e1, ⟨fs, p4, p5, e2, J⟩, e3⟩ := whl_inv (t := tB' (xBin ltD (xVar 3) (xB lenD (kCons (xVar 2) kNil)))) (b := reached_through_l2)
    (fun k ρ => ∃ fs p4 p5, ρ = [some (.v (.dT es)), some (.v (.tup (cs.map .str))), some (.L (natsD fs)), some (.v (.int (k : Int))), p4, p5] ∧ ReachI n es cs k fs) 64 (fun k ρ ⟨fs, p4, p5, e, I⟩ => by
      have hz : fs.length ≤ n := nodup_len I.nd I.lt
      refine ⟨Nat.le_trans I.le (Nat.le_trans hz hm), ?_⟩
      subst e
      by_cases hlt : k < fs.length
      · refine .inr ⟨by simp [natsD_len, hlt], ?_⟩
        have hk : fs[k]? = some fs[k] := List.getElem?_eq_getElem hlt
        have hll : ∀ cs', (stepN es cs' fs[k] fs).length ≤ 1000 := fun cs' => by
          have := nodup_len (stepN_nodup es fs[k] cs' fs I.nd) (stepN_lt hE hn I.lt)
          omega
        obtain ⟨ρ', f1, q4, q5, rfl⟩ := for_ix (g := gNm 4) (b := reached_through_l1) (cs.map .str) (fun i ρ => ∃ q4 q5, ρ = [some (.v (.dT es)), some (.v (.tup (cs.map .str))), some (.L (natsD (stepN es (cs.take i) fs[k] fs))), some (.v (.int (k : Int))), q4, q5])
          (fun i d ρ hd ⟨q4, q5, e⟩ => by
            subst e
            rw [List.getElem?_map] at hd
            obtain ⟨c, hc, rfl⟩ := Option.map_eq_some_iff.mp hd
            obtain ⟨r4, r5, e⟩ := turn_reach hE fs hk (fun cs' => .inl (hll cs')) hc q4 q5
            exact ⟨_, e, r4, r5, rfl⟩) (ρ := [some (.v (.dT es)), some (.v (.tup (cs.map .str))), some (.L (natsD fs)), some (.v (.int (k : Int))), p4, p5]) ⟨p4, p5, rfl⟩
        rw [List.length_map, List.take_of_length_le (Nat.le_refl _)] at f1
        refine ⟨_, ?_, _, q4, q5, rfl, I.step hE hn hk⟩
        unfold reached_through_l2
        rw [sq (ρ2 := [some (.v (.dT es)), some (.v (.tup (cs.map .str))), some (.L (natsD (stepN es cs fs[k] fs))), some (.v (.int (k : Int))), q4, q5])]
        rotate_left
        · simp [sFor_ap, f1]
        simp [reached_through_t2]
      · exact .inl (by simp [natsD_len, hlt])) 1000 0 [some (.v (.dT es)), some (.v (.tup (cs.map .str))), some (.L (natsD [0])), some (.v (.int ((0 : Nat) : Int))), none, none] (by omega)
    ⟨[0], none, none, rfl, by simp, fun h hh => by simp at hh; omega, by simp, by simp, fun i hi => by omega, fun S s0 _ h hh => by simp at hh; subst hh; exact s0⟩
  subst e2
  have hk : ¬ k' < fs.length := by
    intro hlt
    simp [natsD_len, hlt] at e3
  have hkl : k' = fs.length := by have := J.le; omega
  subst hkl
  refine ⟨fs, ⟨J.nd, J.lt, J.zero, fun h hh c hc b e => ?_, J.least⟩, ?_⟩
  · obtain ⟨i, hi⟩ := List.getElem?_of_mem hh
    have := J.clo i (List.getElem?_eq_some_iff.mp hi).1 h hi c hc
    rwa [othD_some e] at this
  · have so : sortOk (natsD fs) = true := sortOk_ints (by rw [sizeLine_num]; have := nodup_len J.nd J.lt; simp [intsN]; omega)
    have e1' : whl (tB' (xBin ltD (xVar 3) (xB lenD (kCons (xVar 2) kNil)))) reached_through_l2 1000 [some (.v (.dT es)), some (.v (.tup (cs.map .str))), some (.L [.int 0]), some (.v (.int 0)), none, none] = .ok .nx [some (.v (.dT es)), some (.v (.tup (cs.map .str))), some (.L (natsD fs)), some (.v (.int (fs.length : Int))), p4, p5] := e1
    have sd : sortD (natsD fs) = (sortI (intsN fs)).map .int := sortD_ints _
    simp [m_reached_through, b_reached_through, pn_reached_through, fnM_ap, fin_ap, sSeq_ap, argOk, reached_through_t4, reached_through_t3, e1', so, sd, -List.map_map]
end L02
end TxtL02R

section TxtL02I
set_option Elab.async false
set_option linter.all false
set_option maxRecDepth 100000
/-! L02I: connected houses; House.__init__; colours, len, repr of a house. -/
namespace L02
open PySem PySem.Spec Dm

theorem apart_symm {x y : Dr} (h : x.apart y) : y.apart x := fun e => by
  obtain ⟨a, b, c, d⟩ := h e.symm
  exact ⟨fun z => a z.symm, fun z => c z.symm, fun z => b z.symm, fun z => d z.symm⟩
theorem valD_mem {κ : Type} [DecidableEq κ] : ∀ {es : List (κ × D)} {k : κ} {d : D}, (es.map (·.1)).Nodup → (k, d) ∈ es → valD es k = some d
  | (k', d') :: es, k, d, hn, hm => by
    rw [List.map_cons, List.nodup_cons] at hn
    rw [valD_cons]
    rcases List.mem_cons.mp hm with e | hm
    · cases e; rw [if_pos rfl]
    · have : k' ≠ k := fun e => hn.1 (List.mem_map.mpr ⟨(k, d), hm, e.symm⟩)
      rw [if_neg this]
      exact valD_mem hn.2 hm
theorem endsL_mem {ds : List Dr} {k : List L2.Key} {d : D} : (k, d) ∈ endsL ds ↔ ∃ x ∈ ds, (k = ek x.a x.w ∧ d = .int (x.b : Int)) ∨ (k = ek x.b x.w ∧ d = .int (x.a : Int)) := by
  unfold endsL
  rw [List.mem_flatMap]
  constructor
  · rintro ⟨x, hx, hm⟩
    refine ⟨x, hx, ?_⟩
    simpa using hm
  · rintro ⟨x, hx, hm⟩
    exact ⟨x, hx, by simpa using hm⟩
theorem endsL_nodup : ∀ {ds : List Dr}, (∀ x ∈ ds, x.a ≠ x.b) → ds.Pairwise Dr.apart → ((endsL ds).map (·.1)).Nodup
  | [], _, _ => List.nodup_nil
  | x :: ds, h1, h2 => by
    obtain ⟨h3, h4⟩ := List.pairwise_cons.mp h2
    have ih := endsL_nodup (fun y hy => h1 y (List.mem_cons_of_mem _ hy)) h4
    have n := endsL_new (x := x) fun y hy => apart_symm (h3 y hy)
    have k : ∀ {q : List L2.Key}, (∀ p ∈ endsL ds, p.1 ≠ q) → q ∉ (endsL ds).map (·.1) := fun {q} z hm => by
      obtain ⟨p, hp, e⟩ := List.mem_map.mp hm
      exact z p hp e
    show (ek x.a x.w :: ek x.b x.w :: (endsL ds).map (·.1)).Nodup
    rw [List.nodup_cons, List.nodup_cons]
    refine ⟨fun hm => ?_, k n.2, ih⟩
    rcases List.mem_cons.mp hm with e | hm
    · exact h1 x List.mem_cons_self (ek_inj e).1
    · exact k n.1 hm
/-- ends of doors of n halls, whichever way round -/
structure Pairs (n : Nat) (ds : List Dr) : Prop where
  ne : ∀ x ∈ ds, x.a ≠ x.b
  lt : ∀ x ∈ ds, x.a < n ∧ x.b < n
  free : ds.Pairwise Dr.apart
theorem Doors.pairs {n : Nat} {ds : List Dr} (H : Doors n ds) : Pairs n ds :=
  ⟨fun x hx => Nat.ne_of_lt (H.ok x hx).ab, fun x hx => ⟨Nat.lt_trans (H.ok x hx).ab (H.ok x hx).bn, (H.ok x hx).bn⟩, H.free⟩
section
variable {n : Nat} {ds : List Dr}
theorem Pairs.ends (P : Pairs n ds) : EndsOk n (endsL ds) := fun k d e => by
  obtain ⟨x, hx, ⟨_, rfl⟩ | ⟨_, rfl⟩⟩ := endsL_mem.mp (valD_some_mem e)
  · exact ⟨x.b, (P.lt x hx).2, rfl⟩
  · exact ⟨x.a, (P.lt x hx).1, rfl⟩
theorem Pairs.val_a (P : Pairs n ds) {x : Dr} (hx : x ∈ ds) : valD (endsL ds) (ek x.a x.w) = some (.int (x.b : Int)) := valD_mem (endsL_nodup P.ne P.free) (endsL_mem.mpr ⟨x, hx, .inl ⟨rfl, rfl⟩⟩)
theorem Pairs.val_b (P : Pairs n ds) {x : Dr} (hx : x ∈ ds) : valD (endsL ds) (ek x.b x.w) = some (.int (x.a : Int)) := valD_mem (endsL_nodup P.ne P.free) (endsL_mem.mpr ⟨x, hx, .inr ⟨rfl, rfl⟩⟩)
theorem val_or {h : Nat} {c : Str} {d : D} (e : valD (endsL ds) (ek h c) = some d) : ∃ x ∈ ds, x.w = c ∧ ((x.a = h ∧ d = .int (x.b : Int)) ∨ (x.b = h ∧ d = .int (x.a : Int))) := by
  obtain ⟨x, hx, ⟨e1, rfl⟩ | ⟨e1, rfl⟩⟩ := endsL_mem.mp (valD_some_mem e)
  · obtain ⟨a, b⟩ := ek_inj e1; exact ⟨x, hx, b.symm, .inl ⟨a.symm, rfl⟩⟩
  · obtain ⟨a, b⟩ := ek_inj e1; exact ⟨x, hx, b.symm, .inr ⟨a.symm, rfl⟩⟩
end
theorem addC_mem {cs : List Str} {w v : Str} : v ∈ addC cs w ↔ v ∈ cs ∨ v = w := by
  unfold addC; split
  · rename_i h
    exact ⟨.inl, fun z => z.elim id fun e => e ▸ h⟩
  · simp
theorem fold_mem {v : Str} : ∀ {ds : List Dr} {cs : List Str}, v ∈ ds.foldl (fun cs x => addC cs x.w) cs ↔ v ∈ cs ∨ ∃ x ∈ ds, x.w = v
  | [], cs => by simp
  | x :: ds, cs => by
    rw [List.foldl_cons, fold_mem, addC_mem]
    constructor
    · rintro ((h | rfl) | ⟨y, hy, rfl⟩)
      · exact .inl h
      · exact .inr ⟨x, List.mem_cons_self, rfl⟩
      · exact .inr ⟨y, List.mem_cons_of_mem _ hy, rfl⟩
    · rintro (h | ⟨y, hy, rfl⟩)
      · exact .inl (.inl h)
      · rcases List.mem_cons.mp hy with rfl | hy
        · exact .inl (.inr rfl)
        · exact .inr ⟨y, hy, rfl⟩
theorem colsL_mem {v : Str} {ds : List Dr} : v ∈ colsL ds ↔ ∃ x ∈ ds, x.w = v := by
  unfold colsL; rw [fold_mem]; simp
theorem addC_nodup {cs : List Str} {w : Str} (h : cs.Nodup) : (addC cs w).Nodup := by
  unfold addC; split
  · exact h
  · rename_i hb
    rw [List.nodup_append]
    refine ⟨h, by simp, fun a ha c hc => ?_⟩
    simp only [List.mem_singleton] at hc
    subst hc
    exact fun e => hb (e ▸ ha)
theorem fold_nodup : ∀ {ds : List Dr} {cs : List Str}, cs.Nodup → (ds.foldl (fun cs x => addC cs x.w) cs).Nodup
  | [], cs, h => h
  | x :: ds, cs, h => fold_nodup (ds := ds) (cs := addC cs x.w) (addC_nodup h)
theorem colsL_nodup (ds : List Dr) : (colsL ds).Nodup := fold_nodup List.nodup_nil
theorem colsOf_mem {v : Str} {ds : List Dr} : v ∈ colsOf ds ↔ ∃ x ∈ ds, x.w = v := by
  unfold colsOf; rw [(sortS_perm _).mem_iff, colsL_mem]
/-- every hall can be reached -/
def Conn (n : Nat) (ds : List Dr) : Prop := ∀ S : Nat → Prop, S 0 → (∀ x ∈ ds, S x.a ↔ S x.b) → ∀ h < n, S h
/-- a house -/
structure Hs (n : Nat) (ds : List Dr) : Prop where
  pos : 0 < n
  le : n ≤ 64
  dr : Doors n ds
  co : Conn n ds
theorem sortI_range {n : Nat} {fs : List Nat} (p : fs.Perm (List.range n)) : sortI (intsN fs) = intsN (List.range n) := by
  have e : (intsN fs).Perm (intsN (List.range n)) := p.map _
  rw [sortI_of e]
  refine isort_id ?_
  unfold intsN
  rw [List.pairwise_map]
  refine List.Pairwise.imp (R := fun a b => a < b) (fun {a b} h => ?_) List.pairwise_lt_range
  unfold leI
  rw [decide_eq_true_eq]
  omega
theorem Found.all {n : Nat} {ds : List Dr} {fs : List Nat} (P : Pairs n ds) (C : Conn n ds) (F : Found n (endsL ds) (colsOf ds) fs) : fs.Perm (List.range n) := by
  refine (List.perm_ext_iff_of_nodup F.nd List.nodup_range).mpr fun h => ⟨fun hh => List.mem_range.mpr (F.lt h hh), fun hh => ?_⟩
  refine C (· ∈ fs) F.zero (fun x hx => ⟨fun z => F.clo x.a z x.w (colsOf_mem.mpr ⟨x, hx, rfl⟩) x.b (P.val_a hx), fun z => F.clo x.b z x.w (colsOf_mem.mpr ⟨x, hx, rfl⟩) x.a (P.val_b hx)⟩) h (List.mem_range.mp hh)
section
variable {n : Nat} {ds : List Dr}
theorem reached_all (H : Hs n ds) : m_reached_through [some (.v (.dT (endsL ds))), some (.v (.tup ((colsOf ds).map .str)))] = .ok (.o (.L (natsD (List.range n)))) [some (.v (.dT (endsL ds))), some (.v (.tup ((colsOf ds).map .str)))] := by
  obtain ⟨fs, F, e⟩ := reached_ok (cs := colsOf ds) H.dr.pairs.ends H.pos H.le
  rw [e, sortI_range (F.all H.dr.pairs H.co)]
  rfl
/-- the data of a house -/
def houseD (n : Nat) (ds : List Dr) : D := hD (.dT (endsL ds)) (n : Int) (.tup (ds.map Dr.d))
abbrev gatesD (ds : List Dr) : D := .tup (ds.map Dr.d)
theorem init_ok (H : Hs n ds) : m_House___init__ [some (.O "House" []), some (.v (.int (n : Int))), some (.v (gatesD ds))] = .ok (.v .non) [some (.v (houseD n ds)), some (.v (.int (n : Int))), some (.v (gatesD ds))] := by
  have e1 := is_integer_int (n : Int) 1 64
  rw [decide_eq_true (by have := H.pos; have := H.le; omega)] at e1
  have e2 := ends_of_ok H.dr
  have e3 := colours_ok (ends := .dT (endsL ds)) (n := (n : Int)) H.dr.few
  have e4 := reached_all H
  have nm := no_meth (.dT (endsL ds)) (.int (n : Int)) (gatesD ds) "colours" (by simp)
  obtain ⟨ρ', f1, q3, q4, rfl⟩ := for_enum (g := gTp 2 (gsCons (gNm 3) (gsCons (gNm 4) gsNil))) (b := House___init___l1) (natsD (List.range n) ++ [.int (n : Int)])
    (fun i ρ => ∃ p3 p4, ρ = [some (.v (houseD n ds)), some (.v (.int (n : Int))), some (.v (gatesD ds)), p3, p4]) (fun i d ρ hd ⟨p3, p4, e⟩ => by
      subst e
      have : d = .int (i : Int) := by
        rw [natsD_app] at hd
        unfold natsD intsN at hd
        rw [List.map_map, List.getElem?_map, ← List.range_succ] at hd
        obtain ⟨j, hj, rfl⟩ := Option.map_eq_some_iff.mp hd
        obtain ⟨hl, rfl⟩ := List.getElem?_eq_some_iff.mp hj
        simp
      subst this
      refine ⟨_, ?_, some (.v (.int (i : Int))), some (.v (.int (i : Int))), rfl⟩
      simp [House___init___l1]) (ρ := [some (.v (houseD n ds)), some (.v (.int (n : Int))), some (.v (gatesD ds)), none, none]) ⟨none, none, rfl⟩
  have sz : (natsD (List.range n)).length + 1 ≤ 16777216 := by rw [natsD_len, List.length_range]; have := H.le; omega
  unfold m_House___init__
  rw [fnM_ap]
  have step : b_House___init__ [some (.O "House" []), some (.v (.int (n : Int))), some (.v (gatesD ds)), none, none] = .ok .nx [some (.v (houseD n ds)), some (.v (.int (n : Int))), some (.v (gatesD ds)), q3, q4] := by
    unfold b_House___init__
    rw [sq (ρ2 := [some (.O "House" []), some (.v (.int (n : Int))), some (.v (gatesD ds)), none, none])]
    rotate_left
    · simp [e1]
    unfold House___init___t4
    rw [sq (ρ2 := [some (.O "House" [("ends", .dT (endsL ds))]), some (.v (.int (n : Int))), some (.v (gatesD ds)), none, none])]
    rotate_left
    · simp [sFldX_ap, e2]
    unfold House___init___t3
    rw [sq (ρ2 := [some (.O "House" [("ends", .dT (endsL ds)), ("halls", .int (n : Int))]), some (.v (.int (n : Int))), some (.v (gatesD ds)), none, none])]
    rotate_left
    · simp [sFldX_ap, put_halls]
    unfold House___init___t2
    rw [sq (ρ2 := [some (.O "House" [("ends", .dT (endsL ds)), ("halls", .int (n : Int)), ("doors", gatesD ds)]), some (.v (.int (n : Int))), some (.v (gatesD ds)), none, none])]
    rotate_left
    · simp [sFldX_ap, put_doors]
    unfold House___init___t1
    have fe : fldD "ends" (D.ins "House" [("ends", .dT (endsL ds)), ("halls", .int (n : Int)), ("doors", gatesD ds)]) = some (.v (.dT (endsL ds))) := fld_ends (.dT (endsL ds)) (n : Int) (gatesD ds)
    have er : ∀ p1 p2 p3 p4, rcvV "House" "colours" (.s 0) [some (.O "House" [("ends", .dT (endsL ds)), ("halls", .int (n : Int)), ("doors", gatesD ds)]), p1, p2, p3, p4] = some (.inl (houseD n ds), [some (.v (houseD n ds)), p1, p2, p3, p4]) := fun p1 p2 p3 p4 => by
      rw [rcvV_ap]
      simp only [toVal_s, List.getElem?_cons_zero, toD_O, nm, and_self, if_true, List.set_cons_zero]
      rfl
    have e3' : m_House_colours [some (.v (houseD n ds))] = .ok (.v (.tup ((colsOf ds).map .str))) [some (.v (houseD n ds))] := e3
    simp [sFor_ap, xMthV_ap, fe, er, e3', e4, sz, f1, -fldD_ins]
  simp [List.replicate, step, fin_ap, argOk, pn_House___init__]
end
end L02
end TxtL02I

section TxtL02D
set_option Elab.async false
set_option linter.all false
set_option maxRecDepth 100000
/-! L02D: the purse: draws, words. -/
namespace L02
open PySem PySem.Spec Dm

structure Pu where
  a : Int
  b : Int
  ha : 0 ≤ a
  hb : 0 ≤ b
  hm : b ≤ 2147483629
def Pu.c (k : Pu) : C := .L [.int k.a, .int k.b]
@[simp] theorem Pu.own (k : Pu) : k.c.own = true := rfl
def nxb (k : Pu) : Int := 1 + (k.b * 39373 + 7919) % 2147483587
theorem draw_eq (k : Pu) (m : Int) (h1 : 0 < m) (h2 : m < 1073741824) : m__law_draw [some k.c, some (.v (.int m))] =
   if k.b = 0 then .ok (.v (.int (k.a % m))) [some (.L [.int (k.a / m), .int k.b]), some (.v (.int m))]
   else .ok (.v (.int (nxb k * 30269 % 2147483563 / 11 % m))) [some (.L [.int k.a, .int (nxb k)]), some (.v (.int m))] := by
  have c1 : cMul k.b 39373 = true := cMul_r (by omega) (by omega)
  have c2 : cMul (1 + (k.b * 39373 + 7919) % 2147483587) 30269 = true := cMul_r (by omega) (by omega)
  have c3 : okP 1073741823 m = true := okP_of ⟨by omega, by omega⟩
  by_cases hg : k.b = 0
  · simp [m__law_draw, b__law_draw, Pu.c, pn__law_draw, _law_draw_t1, _law_draw_t2, c1, c2, c3, hg, h1, h2, nxb, fnM_ap, fin_ap, sSeq_ap, argOk, L2.atI, L2.ixN]
  · simp [m__law_draw, b__law_draw, Pu.c, pn__law_draw, _law_draw_t3, _law_draw_t4, c1, c2, c3, hg, h1, h2, nxb, fnM_ap, fin_ap, sSeq_ap, argOk, L2.atI, L2.ixN]
theorem draw_ok (k : Pu) (m : Int) (h1 : 0 < m) (h2 : m < 1073741824) : ∃ (r : Nat) (k' : Pu), m__law_draw [some k.c, some (.v (.int m))] = .ok (.v (.int (r : Int))) [some k'.c, some (.v (.int m))] ∧ (r : Int) < m := by
  have nat : ∀ z : Int, ((z % m).toNat : Int) = z % m := fun z => Int.toNat_of_nonneg (Int.emod_nonneg _ (by omega))
  rw [draw_eq k m h1 h2]
  by_cases hg : k.b = 0
  · rw [if_pos hg]
    exact ⟨(k.a % m).toNat, ⟨k.a / m, k.b, Int.ediv_nonneg k.ha (by omega), k.hb, k.hm⟩, by rw [nat]; rfl, by rw [nat]; exact Int.emod_lt_of_pos _ h1⟩
  · rw [if_neg hg]
    refine ⟨(nxb k * 30269 % 2147483563 / 11 % m).toNat, ⟨k.a, nxb k, k.ha, ?_, ?_⟩, by rw [nat]; rfl, by rw [nat]; exact Int.emod_lt_of_pos _ h1⟩
    · unfold nxb; omega
    · unfold nxb; omega
theorem purse_ok (ns : List Int) (k : Nat) (hk : k ≤ 1000) : ∃ p : Pu, m__law_purse [some (.v (.scr ns)), some (.v (.int (k : Int)))] = .ok (.o p.c) [some (.v (.scr ns)), some (.v (.int (k : Int)))] := by
  obtain ⟨z, hz⟩ : ∃ z : Int, L2.atI ((cutD ns (some (k : Int)) (some ((k : Int) + 1))).map D.int ++ [D.int 0]) 0 = some (.int z) := by
    cases cutD ns (some (k : Int)) (some ((k : Int) + 1)) with
    | nil => exact ⟨0, rfl⟩
    | cons a l => exact ⟨a, by show L2.atI _ ((0 : Nat) : Int) = _; rw [atI_nat]; rfl⟩
  have hl : (cutD ns (some (k : Int)) (some ((k : Int) + 1))).length + 1 ≤ 16777216 := by
    have : (cutD ns (some (k : Int)) (some ((k : Int) + 1))).length ≤ 1 := by
      unfold cutD
      rw [List.length_take, HT.sIx_nat]
      show min (HT.sIx ns.length ns.length (some (((k + 1 : Nat)) : Int)) - _) _ ≤ 1
      rw [HT.sIx_nat]
      omega
    omega
  by_cases hb : z ≥ 1000000000000000000 ∨ z < 0
  · refine ⟨⟨if -1 - z > z then -1 - z else z, 0, ?_, by omega, by omega⟩, ?_⟩
    · split <;> omega
    · by_cases h1 : z ≥ 1000000000000000000
      · simp [m__law_purse, b__law_purse, pn__law_purse, _law_purse_t2, fnM_ap, fin_ap, sSeq_ap, argOk, hl, hz, h1, Pu.c]
      · have h2 : z < 0 := hb.resolve_left h1
        simp [m__law_purse, b__law_purse, pn__law_purse, _law_purse_t2, fnM_ap, fin_ap, sSeq_ap, argOk, hl, hz, h1, h2, Pu.c]
  · have h1 : ¬ z ≥ 1000000000000000000 := fun h => hb (.inl h)
    have h2 : ¬ z < 0 := fun h => hb (.inr h)
    have c1 : cMul z 48271 = true := cMul_r (by omega) (by omega)
    have c2 : cMul ((k : Int) + 1) 69621 = true := cMul_r (by omega) (by omega)
    have c3 : cMul (((k : Int) + 1) * 69621) ((k : Int) + 7) = true := cMul_r (by omega) (by omega)
    refine ⟨⟨0, 1 + (z * 48271 + ((k : Int) + 1) * 69621 * ((k : Int) + 7)) % 2147483629, by omega, by omega, by omega⟩, ?_⟩
    simp [m__law_purse, b__law_purse, pn__law_purse, _law_purse_t1, _law_purse_t2, fnM_ap, fin_ap, sSeq_ap, argOk, hl, hz, h1, h2, c1, c2, c3, Pu.c]
/-! ### words -/
structure Wo (n : Nat) (ws : List Str) : Prop where
  n : ws.length = n
  col : ∀ w ∈ ws, colS w = true
  nd : ws.Nodup
def menu : List Str := ["push", "open", "shut", "drop", "undo", "house", "hall", "lots", "pair", "chain", "row", "walk", "repeat", "free", "bound", "ok"]
theorem menu_ok : menu.all colS = true := by decide +kernel
theorem menu_nd : ∀ f < 16, ((List.range 16).map fun (k : Nat) => menu[(f + 3 * k) % 16]?.getD Str.empty).Nodup := by decide +kernel
theorem range_le {n m : Nat} (h : n ≤ m) : (List.range n).Sublist (List.range m) := by
  obtain ⟨d, rfl⟩ := Nat.exists_eq_add_of_le h
  rw [List.range_add]
  exact List.sublist_append_left _ _
theorem menu_wo {n f : Nat} (hn : n ≤ 16) (hf : f < 16) : Wo n ((List.range n).map fun (k : Nat) => menu[(f + 3 * k) % 16]?.getD Str.empty) := by
  refine ⟨by simp, fun w hw => ?_, ((range_le hn).map _).nodup (menu_nd f hf)⟩
  obtain ⟨k, _, rfl⟩ := List.mem_map.mp hw
  have hlt : (f + 3 * k) % 16 < menu.length := Nat.mod_lt _ (by decide)
  have e : menu[(f + 3 * k) % 16]?.getD Str.empty = menu[(f + 3 * k) % 16] := by simp [hlt]
  rw [e]
  exact List.all_eq_true.mp menu_ok _ (List.getElem_mem hlt)
section
variable {n : Nat}
abbrev aN (n : Nat) : Option C := some (.v (.int (n : Int)))
abbrev aABC : Option C := some (C.v (D.str "abcdefghijklmnopqrstuvwxyz"))
abbrev aMenu : Option C := some (.L (menu.map .str))
/-- the words of the menu -/
theorem words1 {k : Pu} {f : Nat} {k1 k2 : Pu} (hn : n ≤ 16) (e1 : m__law_draw [some k.c, some (.v (.int 16))] = .ok (.v (.int (f : Int))) [some k1.c, some (.v (.int 16))]) (hf : (f : Int) < 16)
    (e2 : m__law_draw [some k1.c, some (.v (.int 4))] = .ok (.v (.int 0)) [some k2.c, some (.v (.int 4))]) :
    ∃ (ws : List Str), m__law_words [some k.c, aN n] = .ok (.o (.L (ws.map .str))) [some k2.c, aN n] ∧ Wo n ws := by
  have key : lcL (gNm 6) tTrue _law_words_e1 [6] (rngD 0 (n : Int)) []
      [some k2.c, aN n, aABC, aMenu, some (.v (.int f)), some (.v (.int 0)), none, none, none, none] =
      .ok ((List.range n).map fun (k : Nat) => D.str (menu[(f + 3 * k) % 16]?.getD Str.empty)) [some k2.c, aN n, aABC, aMenu, some (.v (.int f)), some (.v (.int 0)), none, none, none, none] := by
    refine lc_rng n (fun k => D.str (menu[(f + 3 * k) % 16]?.getD Str.empty)) (by omega) fun i hi => ?_
    have a1 : cMul 3 (i : Int) = true := cMul_l (by omega) (by omega)
    have a3 : L2.atI (menu.map D.str) (((f : Int) + 3 * (i : Int)) % 16) = some (.str (menu[(f + 3 * i) % 16]?.getD Str.empty)) := by
      have hlt : (f + 3 * i) % 16 < menu.length := Nat.mod_lt _ (by decide)
      rw [show ((f : Int) + 3 * (i : Int)) % 16 = (((f + 3 * i) % 16 : Nat) : Int) by omega, atI_nat]
      simp [hlt]
    simp [_law_words_e1, a1, a3]
  refine ⟨_, ?_, menu_wo (f := f) hn (by omega)⟩
  have eb : b__law_words [some k.c, aN n, none, none, none, none, none, none, none, none] = .ok (.rt (.o (.L (((List.range n).map fun (k : Nat) => menu[(f + 3 * k) % 16]?.getD Str.empty).map .str))))
      [some k2.c, aN n, aABC, aMenu, some (.v (.int f)), some (.v (.int 0)), none, none, none, none] := by
    unfold b__law_words
    rw [sq (ρ2 := [some k.c, aN n, aABC, none, none, none, none, none, none, none])]
    rotate_left
    · simp
    unfold _law_words_t6
    rw [sq (ρ2 := [some k.c, aN n, aABC, aMenu, none, none, none, none, none, none])]
    rotate_left
    · simp [menu]
    unfold _law_words_t5
    rw [sq (ρ2 := [some k2.c, aN n, aABC, aMenu, some (.v (.int f)), some (.v (.int 0)), none, none, none, none])]
    rotate_left
    · simp [e1, e2]
    unfold _law_words_t4
    refine sq_rt ?_
    have x := xLc_rng (ex := xVar 1) (ρ := [some k2.c, aN n, aABC, aMenu, some (.v (.int f)), some (.v (.int 0)), none, none, none, none]) (m := n) rfl (by omega) key
    simp [x]
  simp [m__law_words, pn__law_words, fnM_ap, fin_ap, argOk, eb]
theorem abc_len : (Str.ofString "abcdefghijklmnopqrstuvwxyz").length = 26 := by decide +kernel
theorem abc_at {r : Nat} (h : r < 26) : L2.atI (Str.ofString "abcdefghijklmnopqrstuvwxyz").cps.toList (r : Int) = some (97 + r) := by
  rw [atI_nat, show (Str.ofString "abcdefghijklmnopqrstuvwxyz").cps.toList = _ from abc]
  simp [h]
def Low (cs : List Nat) : Prop := ∀ c ∈ cs, 97 ≤ c ∧ c ≤ 122
/-- a word around its letter -/
def wd (st : Str) (p : Nat) (b k : Nat) : Str := L2.cutS st none (some (p : Int)) ++ ⟨#[97 + (b + 5 * k) % 26]⟩ ++ L2.cutS st (some (p : Int)) none
theorem wd_cps {st : Str} {p b k : Nat} (h : p ≤ st.length) : (wd st p b k).cps.toList = st.cps.toList.take p ++ (97 + (b + 5 * k) % 26) :: st.cps.toList.drop p := by
  unfold wd
  rw [app_cps, app_cps, cutS_to _ _ h, cutS_from _ _ h]
  simp
theorem colS_of {z : Str} (h1 : 1 ≤ z.length) (h2 : z.length ≤ 6) (h : Low z.cps.toList) : colS z = true := by
  unfold colS
  rw [Bool.and_eq_true, decide_eq_true_eq, List.all_eq_true]
  exact ⟨⟨h1, h2⟩, fun c hc => decide_eq_true (abc_iff.mpr (h c hc))⟩
theorem wd_wo {st : Str} {p b : Nat} (hn : n ≤ 16) (h : p ≤ st.length) (hl : st.length ≤ 5) (hc : Low st.cps.toList) : Wo n ((List.range n).map (wd st p b)) := by
  have len : ∀ k, (wd st p b k).length = st.length + 1 := fun k => by
    rw [str_len (wd_cps h)]
    simp [cps_len]
    have := cps_len st
    simp at this
    omega
  refine ⟨by simp, fun w hw => ?_, ?_⟩
  · obtain ⟨k, _, rfl⟩ := List.mem_map.mp hw
    refine colS_of (by rw [len]; omega) (by rw [len]; omega) fun c hcm => ?_
    rw [wd_cps h] at hcm
    rcases List.mem_append.mp hcm with z | z
    · exact hc c (List.mem_of_mem_take z)
    · rcases List.mem_cons.mp z with rfl | z
      · omega
      · exact hc c (List.mem_of_mem_drop z)
  · refine List.pairwise_map.mpr (List.Pairwise.imp_of_mem ?_ List.pairwise_lt_range)
    intro i j hi hj hij e
    have hi := List.mem_range.mp hi
    have hj := List.mem_range.mp hj
    have e2 := congrArg (fun x : Str => x.cps.toList) e
    simp only [wd_cps h] at e2
    have e3 := List.append_cancel_left e2
    have e4 := (List.cons.inj e3).1
    omega
theorem stem_ok (kd : Pu) {a b c d e : Option C} {m : Nat} (hm : m ≤ 5) : ∃ (cs : List Nat) (k' : Pu), lcL (gNm 6) tTrue _law_words_e2 [6] (rngD 0 (m : Int)) []
      [some kd.c, a, aABC, b, c, d, none, e, none, none] =
      .ok (cs.map fun c => D.str ⟨#[c]⟩) [some k'.c, a, aABC, b, c, d, none, e, none, none] ∧ cs.length = m ∧ Low cs := by
  obtain ⟨out, ρ', e1, e2, cs, k', e3, e4, e5⟩ := lc_rngI (g := gNm 6) (t := tTrue) (e := _law_words_e2) (vs := [6]) m
    (fun i acc ρ => ∃ (cs : List Nat) (k' : Pu), acc = cs.map (fun c => D.str ⟨#[c]⟩) ∧ Low cs ∧ ρ = [some k'.c, a, aABC, b, c, d, none, e, none, none]) (by omega)
    (fun i acc ρ hi ha ⟨cs, k', e3, e4, e5⟩ => by
      obtain ⟨r, k2, er, hr⟩ := draw_ok k' 26 (by decide) (by decide)
      subst e5
      refine ⟨.str ⟨#[97 + r]⟩, [some k2.c, a, aABC, b, c, d, none, e, none, none], ?_, cs ++ [97 + r], k2, by simp [e3], fun c hc => ?_, rfl⟩
      · simp [_law_words_e2, er, abc_len, abc_at (r := r) (by omega)]
      · rcases List.mem_append.mp hc with z | z
        · exact e4 c z
        · simp at z; omega) (ρ := [some kd.c, a, aABC, b, c, d, none, e, none, none]) ⟨[], kd, rfl, fun c h => by (cases h), rfl⟩
  subst e3 e5
  exact ⟨cs, k', e1, by simpa using e2, e4⟩
theorem words2 {k : Pu} {f y : Nat} {k1 k2 : Pu} (hn : n ≤ 16) (e1 : m__law_draw [some k.c, some (.v (.int 16))] = .ok (.v (.int (f : Int))) [some k1.c, some (.v (.int 16))])
    (e2 : m__law_draw [some k1.c, some (.v (.int 4))] = .ok (.v (.int (y : Int))) [some k2.c, some (.v (.int 4))]) (hy : ¬ y = 0) :
    ∃ (ws : List Str) (k' : Pu), m__law_words [some k.c, aN n] = .ok (.o (.L (ws.map .str))) [some k'.c, aN n] ∧ Wo n ws := by
  obtain ⟨m, k3, e3, hm⟩ := draw_ok k2 6 (by decide) (by decide)
  obtain ⟨cs, k4, e4, hcs, hlow⟩ := stem_ok k3 (m := m) (by omega) (a := aN n) (b := aMenu) (c := some (.v (.int f))) (d := some (.v (.int y))) (e := none)
  have hj := joinD_cs (cs := cs) (by omega)
  have hst : (⟨cs.toArray⟩ : Str).length = m := by rw [← hcs]; rfl
  obtain ⟨p, k5, e5, hp⟩ := draw_ok k4 (m + 1) (by omega) (by omega)
  obtain ⟨b, k6, e6, hb⟩ := draw_ok k5 26 (by decide) (by decide)
  have hp' : p ≤ (⟨cs.toArray⟩ : Str).length := by omega
  have key : lcL (gNm 6) tTrue _law_words_e3 [6] (rngD 0 (n : Int)) []
      [some k6.c, aN n, aABC, aMenu, some (.v (.int f)), some (.v (.int y)), none, some (.v (.str ⟨cs.toArray⟩)), some (.v (.int p)), some (.v (.int b))] =
      .ok ((List.range n).map fun (k : Nat) => D.str (wd ⟨cs.toArray⟩ p b k)) [some k6.c, aN n, aABC, aMenu, some (.v (.int f)), some (.v (.int y)), none, some (.v (.str ⟨cs.toArray⟩)), some (.v (.int p)), some (.v (.int b))] := by
    refine lc_rng n (fun k => D.str (wd ⟨cs.toArray⟩ p b k)) (by omega) fun i hi => ?_
    have a1 : cMul 5 (i : Int) = true := cMul_l (by omega) (by omega)
    have a3 : L2.atI (Str.ofString "abcdefghijklmnopqrstuvwxyz").cps.toList (((b : Int) + 5 * (i : Int)) % 26) = some (97 + (b + 5 * i) % 26) := by
      rw [show ((b : Int) + 5 * (i : Int)) % 26 = (((b + 5 * i) % 26 : Nat) : Int) by omega, abc_at (by omega)]
    have l1 : (L2.cutS ⟨cs.toArray⟩ none (some (p : Int))).length ≤ 5 := by
      rw [str_len (cutS_to _ _ hp')]; simp; omega
    have l2 : (L2.cutS ⟨cs.toArray⟩ (some (p : Int)) none).length ≤ 5 := by
      rw [str_len (cutS_from _ _ hp')]; simp; omega
    have l3 : (⟨#[97 + (b + 5 * i) % 26]⟩ : Str).length = 1 := rfl
    have l4 : (L2.cutS ⟨cs.toArray⟩ none (some (p : Int)) ++ (⟨#[97 + (b + 5 * i) % 26]⟩ : Str)).length ≤ 6 := by rw [app_len]; omega
    have z1 : (⟨cs.toArray⟩ : Str).length ≤ 16777216 := by omega
    have z2 : (L2.cutS ⟨cs.toArray⟩ none (some (p : Int))).length + (⟨#[97 + (b + 5 * i) % 26]⟩ : Str).length ≤ 16777216 := by omega
    have z3 : (L2.cutS ⟨cs.toArray⟩ none (some (p : Int)) ++ (⟨#[97 + (b + 5 * i) % 26]⟩ : Str)).length + (L2.cutS ⟨cs.toArray⟩ (some (p : Int)) none).length ≤ 16777216 := by omega
    simp [_law_words_e3, a1, a3, abc_len, z1, z2, z3, wd]
  refine ⟨_, k6, ?_, wd_wo (b := b) hn hp' (by omega) hlow⟩
  have o1 : okR (m : Int) = true := okR_nat (by omega)
  have o3 : m ≤ 16777216 := by omega
  have eb : b__law_words [some k.c, aN n, none, none, none, none, none, none, none, none] = .ok (.rt (.o (.L (((List.range n).map (wd ⟨cs.toArray⟩ p b)).map .str))))
      [some k6.c, aN n, aABC, aMenu, some (.v (.int f)), some (.v (.int y)), none, some (.v (.str ⟨cs.toArray⟩)), some (.v (.int p)), some (.v (.int b))] := by
    unfold b__law_words
    rw [sq (ρ2 := [some k.c, aN n, aABC, none, none, none, none, none, none, none])]
    rotate_left
    · simp
    unfold _law_words_t6
    rw [sq (ρ2 := [some k.c, aN n, aABC, aMenu, none, none, none, none, none, none])]
    rotate_left
    · simp [menu]
    unfold _law_words_t5
    rw [sq (ρ2 := [some k2.c, aN n, aABC, aMenu, some (.v (.int f)), some (.v (.int y)), none, none, none, none])]
    rotate_left
    · simp [e1, e2]
    unfold _law_words_t4
    rw [sq (ρ2 := [some k2.c, aN n, aABC, aMenu, some (.v (.int f)), some (.v (.int y)), none, none, none, none])]
    rotate_left
    · simp [hy]
    unfold _law_words_t3
    rw [sq (ρ2 := [some k4.c, aN n, aABC, aMenu, some (.v (.int f)), some (.v (.int y)), none, some (.v (.str ⟨cs.toArray⟩)), none, none])]
    rotate_left
    · have x := xLc_rng (ex := xCal m__law_draw (gIo 0 (gVal (xC (.int 6)) gNil))) (g := gNm 6) (t := tTrue) (e := _law_words_e2) (vs := [6]) (m := m) (ρ := [some k2.c, aN n, aABC, aMenu, some (.v (.int f)), some (.v (.int y)), none, none, none, none]) (ρ1 := [some k3.c, aN n, aABC, aMenu, some (.v (.int f)), some (.v (.int y)), none, none, none, none]) (by simp [e3]) (by omega) e4
      simp [x, hj]
    unfold _law_words_t2
    rw [sq (ρ2 := [some k6.c, aN n, aABC, aMenu, some (.v (.int f)), some (.v (.int y)), none, some (.v (.str ⟨cs.toArray⟩)), some (.v (.int p)), some (.v (.int b))])]
    rotate_left
    · simp [hst, o3, e5, e6]
    unfold _law_words_t1
    have x := xLc_rng (ex := xVar 1) (ρ := [some k6.c, aN n, aABC, aMenu, some (.v (.int f)), some (.v (.int y)), none, some (.v (.str ⟨cs.toArray⟩)), some (.v (.int p)), some (.v (.int b))]) (m := n) rfl (by omega) key
    simp [x]
  simp [m__law_words, pn__law_words, fnM_ap, fin_ap, argOk, eb]
theorem words_ok (k : Pu) (hn : n ≤ 16) : ∃ (ws : List Str) (k' : Pu), m__law_words [some k.c, aN n] = .ok (.o (.L (ws.map .str))) [some k'.c, aN n] ∧ Wo n ws := by
  obtain ⟨f, k1, e1, h1⟩ := draw_ok k 16 (by decide) (by decide)
  obtain ⟨y, k2, e2, h2⟩ := draw_ok k1 4 (by decide) (by decide)
  by_cases hy : y = 0
  · subst hy
    obtain ⟨ws, e, w⟩ := words1 hn e1 h1 e2
    exact ⟨ws, k2, e, w⟩
  · exact words2 hn e1 e2 hy
end
end L02
end TxtL02D

section TxtL02S
set_option Elab.async false
set_option linter.all false
set_option maxRecDepth 100000
/-! L02S: doors in order. -/
namespace L02
open PySem PySem.Spec Dm

instance (x y : Dr) : Decidable (x.lt y) := by unfold Dr.lt; infer_instance
def Dr.p (x : Dr) : PyData := .tuple [.int (x.a : Int), .int (x.b : Int), .str x.w]
theorem Dr.py (x : Dr) : x.d.py = some x.p := by simp [Dr.d, Dr.p]
theorem Dr.pys (ds : List Dr) : D.pys (ds.map Dr.d) = some (ds.map Dr.p) := by
  induction ds with
  | nil => simp
  | cons x ds ih => simp [ih, Dr.py]
theorem Dr.enc (x : Dr) : encD x.d = x.p := by unfold encD; rw [Dr.py]; rfl
theorem dataLt_dr (x y : Dr) : PySem.W.dataLt x.p y.p = decide (x.lt y) := by
  unfold Dr.p
  rw [PySem.W.dataLt_tuple, PySem.W.dataLt_cons (by simp [PySem.W.alike]), PySem.W.dataLt_cons (by simp [PySem.W.alike]), PySem.W.dataLt_cons (by simp [PySem.W.alike])]
  have e : PyProof.Rows.lexLt PyProof.Rows.itemOrd (PySem.W.keyToksAll []) (PySem.W.keyToksAll []) = false := PyProof.Rows.lex_irrefl _
  rw [e, PySem.W.dataLt_int, PySem.W.dataLt_int, PySem.W.dataLt_str]
  simp only [PyData.eqv, beq_iff_eq]
  unfold Dr.lt
  by_cases h1 : x.a = y.a
  · have h1' : (x.a : Int) = (y.a : Int) := by omega
    by_cases h2 : x.b = y.b
    · have h2' : (x.b : Int) = (y.b : Int) := by omega
      by_cases h3 : x.w = y.w
      · have : ¬ y.w.cps.toList < y.w.cps.toList := List.lt_irrefl _
        simp [h1, h2, h3, this]
      · simp [h1, h2, h3]
    · have h2' : ¬ (x.b : Int) = (y.b : Int) := by omega
      simp [h1, h2, h2']
  · have h1' : ¬ (x.a : Int) = (y.a : Int) := by omega
    simp [h1, h1']
def leDr (x y : Dr) : Bool := !decide (y.lt x)
theorem leD'_dr (x y : Dr) : leD' x.d y.d = leDr x y := by
  unfold leD' leDr
  rw [PySem.W.dataLe_eq]
  show (!PySem.W.dataLt (encD y.d) (encD x.d)) = _
  rw [Dr.enc, Dr.enc, dataLt_dr]
def sortDr (ds : List Dr) : List Dr := isort leDr ds
theorem sortD_dr (ds : List Dr) : sortD (ds.map Dr.d) = (sortDr ds).map Dr.d := isort_map Dr.d leD'_dr ds
theorem leD'_trans (a b c : D) (h1 : leD' a b = true) (h2 : leD' b c = true) : leD' a c = true := by
  have T := PySem.W.sortLe_total (PyProof.Rows.listOrd PyProof.Rows.itemOrd) false fun b => PySem.W.keyToks (encD b)
  exact T.trans a b c h1 h2
theorem leD'_total (a b : D) : (leD' a b || leD' b a) = true := by
  have T := PySem.W.sortLe_total (PyProof.Rows.listOrd PyProof.Rows.itemOrd) false fun b => PySem.W.keyToks (encD b)
  exact Bool.or_eq_true_iff.mpr (T.total a b)
theorem leDr_trans (a b c : Dr) (h1 : leDr a b = true) (h2 : leDr b c = true) : leDr a c = true := by
  rw [← leD'_dr] at *
  exact leD'_trans _ _ _ h1 h2
theorem leDr_total (a b : Dr) : (leDr a b || leDr b a) = true := by
  rw [← leD'_dr, ← leD'_dr]
  exact leD'_total _ _
theorem lt_tri (x y : Dr) : x.lt y ∨ x = y ∨ y.lt x := by
  unfold Dr.lt
  by_cases h1 : x.a = y.a
  · by_cases h2 : x.b = y.b
    · by_cases h3 : x.w = y.w
      · obtain ⟨a, b, w⟩ := x
        obtain ⟨a', b', w'⟩ := y
        cases h1; cases h2; cases h3
        exact .inr (.inl rfl)
      · rcases List.le_total x.w.cps.toList y.w.cps.toList with h | h
        · by_cases q : x.w.cps.toList < y.w.cps.toList
          · exact .inl (.inr ⟨h1, .inr ⟨h2, q⟩⟩)
          · exact absurd (str_ext (List.le_antisymm h (List.not_lt.mp q))) h3
        · by_cases q : y.w.cps.toList < x.w.cps.toList
          · exact .inr (.inr (.inr ⟨h1.symm, .inr ⟨h2.symm, q⟩⟩))
          · exact absurd (str_ext (List.le_antisymm (List.not_lt.mp q) h)) h3
    · rcases Nat.lt_or_gt_of_ne h2 with h | h
      · exact .inl (.inr ⟨h1, .inl h⟩)
      · exact .inr (.inr (.inr ⟨h1.symm, .inl h⟩))
  · rcases Nat.lt_or_gt_of_ne h1 with h | h
    · exact .inl (.inl h)
    · exact .inr (.inr (.inl h))
theorem sortDr_perm (ds : List Dr) : (sortDr ds).Perm ds := isort_perm ds
theorem sortDr_asc {ds : List Dr} (h : ds.Nodup) : (sortDr ds).Pairwise Dr.lt := by
  have n := (sortDr_perm ds).nodup_iff.mpr h
  refine List.Pairwise.imp_of_mem ?_ ((isort_sorted leDr_trans leDr_total ds).and n)
  intro a b _ _ ⟨h1, h2⟩
  unfold leDr at h1
  rcases lt_tri a b with z | z | z
  · exact z
  · exact absurd z h2
  · simp [z] at h1
theorem sortOk_dr {ds : List Dr} (h : ds.length ≤ 16777216) : sortOk (ds.map Dr.d) = true := by
  unfold sortOk
  rw [Dr.pys]
  have a1 : ((ds.map Dr.p).all fun p => (ds.map Dr.p).all (PySem.W.alike p)) = true := by
    rw [List.all_eq_true]
    intro p hp
    rw [List.all_eq_true]
    intro q hq
    obtain ⟨x, _, rfl⟩ := List.mem_map.mp hp
    obtain ⟨y, _, rfl⟩ := List.mem_map.mp hq
    simp [PySem.W.alike, PySem.W.alikeAll, Dr.p]
  have a2 : (ds.map Dr.p).all tup1 = true := by
    rw [List.all_eq_true]
    intro p hp
    obtain ⟨x, _, rfl⟩ := List.mem_map.mp hp
    rfl
  have a3 : (ds.map Dr.p).all (fun p => decide (p.depth ≤ 100)) = true := by
    rw [List.all_eq_true]
    intro p hp
    obtain ⟨x, _, rfl⟩ := List.mem_map.mp hp
    simp [PyData.depth, Dr.p, PyData.depthAll]
  have a4 : decide ((ds.map Dr.d).length ≤ sizeLine) = true := by rw [List.length_map, sizeLine_num]; exact decide_eq_true h
  simp only [a1, a2, a3, a4, Bool.true_or, Bool.and_self]
/-- doors in any order: those of a house -/
theorem Doors.of {n : Nat} {ds : List Dr} (ok : ∀ x ∈ ds, x.Ok n) (free : ds.Pairwise Dr.apart) (few : (colsL ds).length ≤ 16) (many : ds.length ≤ 1000) : Doors n (sortDr ds) := by
  have pm := sortDr_perm ds
  have nd : ds.Nodup := List.Pairwise.imp (fun {a b} h e => by subst e; exact (h rfl).1 rfl) free
  refine ⟨fun x hx => ok x (pm.mem_iff.mp hx), sortDr_asc nd, pm.symm.pairwise free fun {a b} h => apart_symm h, ?_, by rw [pm.length_eq]; exact many⟩
  have : (colsL (sortDr ds)).Perm (colsL ds) := (List.perm_ext_iff_of_nodup (colsL_nodup _) (colsL_nodup _)).mpr fun v => by
    rw [colsL_mem, colsL_mem]
    exact ⟨fun ⟨x, hx, e⟩ => ⟨x, pm.mem_iff.mp hx, e⟩, fun ⟨x, hx, e⟩ => ⟨x, pm.mem_iff.mpr hx, e⟩⟩
  rw [this.length_eq]
  exact few
theorem Conn.perm {n : Nat} {ds es : List Dr} (p : ds.Perm es) (h : Conn n ds) : Conn n es := fun S s0 sc => h S s0 fun x hx => sc x (p.mem_iff.mp hx)
end L02
end TxtL02S

section TxtL02G
set_option Elab.async false
set_option linter.all false
set_option maxRecDepth 100000
/-! L02G: houses that are grown. -/
namespace L02
open PySem PySem.Spec Dm

structure Gr (n : Nat) (ws : List Str) (ps : List Dr) : Prop where
  pa : Pairs n ps
  wd : ∀ x ∈ ps, x.w ∈ ws
  co : Conn n ps
theorem endsL_app (ps qs : List Dr) : endsL (ps ++ qs) = endsL ps ++ endsL qs := by unfold endsL; rw [List.flatMap_append]
theorem ends_add {ps : List Dr} {a b : Nat} {w : Str} (ea : valD (endsL ps) (ek a w) = none) (eb : valD (endsL ps) (ek b w) = none) (ne : a ≠ b) :
    putD (putD (endsL ps) (ek a w) (.int (b : Int))) (ek b w) (.int (a : Int)) = endsL (ps ++ [⟨a, b, w⟩]) := by
  rw [putD_new (valD_none_iff.mp ea), putD_new (valD_none_iff.mp ?_), endsL_app, List.append_assoc]
  · rfl
  · rw [valD_app, eb]
    have : ¬ ek a w = ek b w := fun e => ne (ek_inj e).1
    rw [valD_cons, if_neg this]
    rfl
theorem none_apart {ps : List Dr} {h : Nat} {c : Str} (e : valD (endsL ps) (ek h c) = none) : ∀ y ∈ ps, y.w = c → y.a ≠ h ∧ y.b ≠ h := fun y hy hc => by
  have := valD_none_iff.mp e
  subst hc
  exact ⟨fun z => this (ek y.a y.w, _) (endsL_mem.mpr ⟨y, hy, .inl ⟨rfl, rfl⟩⟩) (by rw [z]), fun z => this (ek y.b y.w, _) (endsL_mem.mpr ⟨y, hy, .inr ⟨rfl, rfl⟩⟩) (by rw [z])⟩
theorem Pairs.add {n : Nat} {ps : List Dr} {a b : Nat} {w : Str} (P : Pairs n ps) (ne : a ≠ b) (ha : a < n) (hb : b < n) (ea : valD (endsL ps) (ek a w) = none) (eb : valD (endsL ps) (ek b w) = none) : Pairs n (ps ++ [⟨a, b, w⟩]) := by
  refine ⟨fun x hx => ?_, fun x hx => ?_, ?_⟩
  · rcases List.mem_append.mp hx with z | z
    · exact P.ne x z
    · simp at z; subst z; exact ne
  · rcases List.mem_append.mp hx with z | z
    · exact P.lt x z
    · simp at z; subst z; exact ⟨ha, hb⟩
  · rw [List.pairwise_append]
    refine ⟨P.free, by simp, fun x hx y hy => ?_⟩
    simp at hy; subst hy
    intro e
    have h1 := none_apart ea x hx e
    have h2 := none_apart eb x hx e
    exact ⟨h1.1, h2.1, h1.2, h2.2⟩
theorem Pairs.up {n m : Nat} {ps : List Dr} (P : Pairs n ps) (h : n ≤ m) : Pairs m ps := ⟨P.ne, fun x hx => ⟨Nat.lt_of_lt_of_le (P.lt x hx).1 h, Nat.lt_of_lt_of_le (P.lt x hx).2 h⟩, P.free⟩
theorem Pairs.fresh {n : Nat} {ps : List Dr} (P : Pairs n ps) (w : Str) : valD (endsL ps) (ek n w) = none := by
  cases e : valD (endsL ps) (ek n w) with
  | none => rfl
  | some d =>
    obtain ⟨x, hx, _, ⟨h, _⟩ | ⟨h, _⟩⟩ := val_or e
    · have := (P.lt x hx).1; omega
    · have := (P.lt x hx).2; omega
theorem Gr.grow {n : Nat} {ws : List Str} {ps : List Dr} {a : Nat} {w : Str} (G : Gr n ws ps) (ha : a < n) (hw : w ∈ ws) (ea : valD (endsL ps) (ek a w) = none) : Gr (n + 1) ws (ps ++ [⟨a, n, w⟩]) := by
  refine ⟨(G.pa.up (Nat.le_succ _)).add (by omega) (by omega) (by omega) ea (G.pa.fresh w), fun x hx => ?_, fun S s0 sc h hh => ?_⟩
  · rcases List.mem_append.mp hx with z | z
    · exact G.wd x z
    · simp at z; subst z; exact hw
  · have low := G.co S s0 fun x hx => sc x (List.mem_append_left _ hx)
    by_cases e : h = n
    · subst e
      exact (sc ⟨a, h, w⟩ (by simp)).mp (low a ha)
    · exact low h (by omega)
theorem Gr.more {n : Nat} {ws : List Str} {ps : List Dr} {a b : Nat} {w : Str} (G : Gr n ws ps) (ne : a ≠ b) (ha : a < n) (hb : b < n) (hw : w ∈ ws) (ea : valD (endsL ps) (ek a w) = none) (eb : valD (endsL ps) (ek b w) = none) : Gr n ws (ps ++ [⟨a, b, w⟩]) := by
  refine ⟨G.pa.add ne ha hb ea eb, fun x hx => ?_, fun S s0 sc => G.co S s0 fun x hx => sc x (List.mem_append_left _ hx)⟩
  rcases List.mem_append.mp hx with z | z
  · exact G.wd x z
  · simp at z; subst z; exact hw
/-! ### the free places -/
def pd (q : Nat × Str) : D := .tup [.int (q.1 : Int), .str q.2]
abbrev gE (k : Pu) (m : Int) (ws : List Str) (ps : List Dr) (n : Nat) (p5 p6 p7 p8 p9 p10 : Option C) : En := [some k.c, some (.v (.int m)), some (.v (.lst (ws.map .str))), some (.dT (endsL ps)), some (.v (.int (n : Int))), p5, p6, p7, p8, p9, p10]
def freeAt (ps : List Dr) (i : Nat) (ws : List Str) : List (Nat × Str) := (ws.filter fun w => (valD (endsL ps) (ek i w)).isNone).map fun w => (i, w)
theorem free_fm (ps : List Dr) (i : Nat) (ws : List Str) : (ws.map D.str).filterMap (fun d => match d with
    | .str w => if (valD (endsL ps) (ek i w)).isNone then some (pd (i, w)) else none
    | _ => none) = (freeAt ps i ws).map pd := by
  unfold freeAt
  induction ws with
  | nil => rfl
  | cons w ws ih =>
    rw [List.map_cons, List.filterMap_cons, ih]
    cases h : (valD (endsL ps) (ek i w)).isNone <;> simp [h, List.filter_cons]
theorem free_lc {k : Pu} {m : Int} {ws : List Str} {ps : List Dr} {n i : Nat} {p5 p6 p9 p10 : Option C} (hz : ws.length ≤ 1000) : lcL (gNm 8) _law_grown_q1 _law_grown_e1 [8] (ws.map .str) [] (gE k m ws ps n p5 p6 (some (.v (.int (i : Int)))) none p9 p10) =
    .ok ((freeAt ps i ws).map pd) (gE k m ws ps n p5 p6 (some (.v (.int (i : Int)))) none p9 p10) := by
  rw [lc_map (fun d => match d with
    | .str w => if (valD (endsL ps) (ek i w)).isNone then some (pd (i, w)) else none
    | _ => none) _ (fun d hd => ?_) (by rw [List.length_map]; omega), free_fm]
  obtain ⟨w, _, rfl⟩ := List.mem_map.mp hd
  cases e : valD (endsL ps) (ek i w) with
  | none => simp [_law_grown_q1, _law_grown_e1, in_ek, e, pd]
  | some d => simp [_law_grown_q1, _law_grown_e1, in_ek, e]
theorem free_len (ps : List Dr) (i : Nat) (ws : List Str) : (freeAt ps i ws).length ≤ ws.length := by
  unfold freeAt; rw [List.length_map]; exact List.length_filter_le _ _
theorem free_mem {ps : List Dr} {i : Nat} {ws : List Str} {q : Nat × Str} (h : q ∈ freeAt ps i ws) : q.1 = i ∧ q.2 ∈ ws ∧ valD (endsL ps) (ek q.1 q.2) = none := by
  unfold freeAt at h
  obtain ⟨w, hw, rfl⟩ := List.mem_map.mp h
  rw [List.mem_filter] at hw
  exact ⟨rfl, hw.1, by simpa using hw.2⟩
theorem pd_shows {q : Nat × Str} (h1 : q.1 < 1000) (h2 : colS q.2 = true) : ∃ p, (pd q).py = some p ∧ Shows p 100 1 := by
  refine ⟨.tuple [.int (q.1 : Int), .str q.2], by simp [pd], ?_⟩
  have l := colS_len h2
  have s1 : Shows (.int (q.1 : Int)) 13 0 := Shows.int (by omega)
  have s2 := Shows.str (colS_asc h2)
  exact (Shows.tuple (ShowsAll.cons s1 (ShowsAll.cons s2 ShowsAll.nil))).mono (by omega) (Nat.le_refl _)
theorem eq_free {fr : List (Nat × Str)} (h : ∀ q ∈ fr, q.1 < 1000 ∧ colS q.2 = true) : eqD true (.lst (fr.map pd)) (.lst []) = some (.v (.bl (!fr.isEmpty))) := by
  have key : ∀ fr : List (Nat × Str), (∀ q ∈ fr, q.1 < 1000 ∧ colS q.2 = true) → ∃ ps, D.pys (fr.map pd) = some ps ∧ ps.length = fr.length ∧ ∀ p ∈ ps, Shows p 100 1 := by
    intro fr
    induction fr with
    | nil => intro _; exact ⟨[], by simp, rfl, by simp⟩
    | cons q fr ih =>
      intro h
      obtain ⟨ps, e, el, hs⟩ := ih fun q hq => h q (List.mem_cons_of_mem _ hq)
      obtain ⟨p, e1, h1⟩ := pd_shows (h q List.mem_cons_self).1 (h q List.mem_cons_self).2
      refine ⟨p :: ps, by simp [e1, e], by simp [el], fun x hx => ?_⟩
      rcases List.mem_cons.mp hx with rfl | hx
      · exact h1
      · exact hs x hx
  obtain ⟨ps, e, el, hs⟩ := key fr h
  have sh : SeqAt.shaped (.list ps) = true := (Shows.list (ShowsAll.of hs)).shaped (by decide)
  have s0 : SeqAt.shaped (.list []) = true := (Shows.list (ShowsAll.nil (k := 0))).shaped (by decide)
  rw [eqD_ap, py_lst, e, py_lst, pys_nil]
  simp only [Option.map_some, sh, s0, Bool.and_self, if_true]
  cases fr with
  | nil =>
    have : ps = [] := List.length_eq_zero_iff.mp el
    subst this
    simp [PyData.eqv, PyData.eqvAll]
  | cons q fr =>
    cases ps with
    | nil => cases el
    | cons p ps => simp [PyData.eqv, PyData.eqvAll]
structure FrOk (n : Nat) (ws : List Str) (ps : List Dr) (fr : List (Nat × Str)) : Prop where
  len : fr.length ≤ 1000 * 64
  ok : ∀ q ∈ fr, q.1 < n ∧ q.2 ∈ ws ∧ valD (endsL ps) (ek q.1 q.2) = none
theorem free_for {k : Pu} {m : Int} {ws : List Str} {ps : List Dr} {n : Nat} (hn : n ≤ 64) (hz : ws.length ≤ 1000) (p5 p7 p8 p9 p10 : Option C) : ∃ fr q7 q8, FrOk n ws ps fr ∧
    forL (gNm 7) _law_grown_l1 (rngD 0 (n : Int)) (gE k m ws ps n p5 (some (.L [])) p7 p8 p9 p10) = .ok .nx (gE k m ws ps n p5 (some (.L (fr.map pd))) q7 q8 p9 p10) := by
  obtain ⟨ρ', e1, fr, q7, q8, rfl, hl, ok⟩ := for_rngI (g := gNm 7) (b := _law_grown_l1) n (fun i ρ => ∃ (fr : List (Nat × Str)) (q7 q8 : Option C), ρ = gE k m ws ps n p5 (some (.L (fr.map pd))) q7 q8 p9 p10 ∧ fr.length ≤ i * 1000 ∧ ∀ q ∈ fr, q.1 < n ∧ q.2 ∈ ws ∧ valD (endsL ps) (ek q.1 q.2) = none)
    (fun i ρ hi ⟨fr, q7, q8, e, hl, ok⟩ => by
      subst e
      have fl := free_len ps i ws
      have x := free_lc (k := k) (m := m) (ws := ws) (ps := ps) (n := n) (i := i) (p5 := p5) (p6 := some (.L (fr.map pd))) (p9 := p9) (p10 := p10) hz
      have sz : fr.length + (freeAt ps i ws).length ≤ 16777216 := by have : i * 1000 ≤ 64 * 1000 := Nat.mul_le_mul_right _ (by omega); omega
      refine ⟨_, ?_, fr ++ freeAt ps i ws, some (.v (.int (i : Int))), q8, rfl, ?_, fun q hq => ?_⟩
      · simp [_law_grown_l1, xLc_ap, x, sz]
      · rw [List.length_append, Nat.succ_mul]; omega
      · rcases List.mem_append.mp hq with z | z
        · exact ok q z
        · obtain ⟨a, b, c⟩ := free_mem z
          exact ⟨by omega, b, c⟩) (ρ := gE k m ws ps n p5 (some (.L [])) p7 p8 p9 p10) ⟨[], p7, p8, rfl, by simp, by simp⟩
  exact ⟨fr, q7, q8, ⟨by have : n * 1000 ≤ 64 * 1000 := Nat.mul_le_mul_right _ hn; omega, ok⟩, e1⟩
theorem put2 {ps : List Dr} (hz : ps.length ≤ 1000) : (endsL ps).length < 16777216 := by rw [endsL_len]; omega
theorem put2' {ps : List Dr} (hz : ps.length ≤ 1000) (k : List L2.Key) (d : D) : (putD (endsL ps) k d).length < 16777216 := by
  have := put2 hz
  unfold putD
  split
  · rw [List.length_map]; exact this
  · rw [List.length_append]; rw [endsL_len]; simp; omega
/-- a turn of the growing -/
theorem turn_grow {k : Pu} {m : Int} {ws : List Str} {ps : List Dr} {n : Nat} (G : Gr n ws ps) (hn : n < 64) (hw : ∀ w ∈ ws, colS w = true) (hz : ws.length ≤ 1000) (hp : ps.length ≤ 500) (d : D) (p5 p6 p7 p8 p9 p10 : Option C) : ∃ k' ps' n' q5 q6 q7 q8,
    tnF (gNm 5) _law_grown_l2 d (gE k m ws ps n p5 p6 p7 p8 p9 p10) = .ok .nx (gE k' m ws ps' n' q5 q6 q7 q8 p9 p10) ∧ Gr n' ws ps' ∧ n ≤ n' ∧ n' ≤ n + 1 ∧ ps'.length ≤ ps.length + 1 := by
  obtain ⟨fr, q7, q8, ok, e1⟩ := free_for (k := k) (m := m) (ws := ws) (ps := ps) (n := n) (by omega) hz (some (.v d)) p7 p8 p9 p10
  have rr : okR (n : Int) = true := okR_nat (by omega)
  have ef := eq_free (fr := fr) fun q hq => ⟨by have := (ok.ok q hq).1; omega, hw _ (ok.ok q hq).2.1⟩
  have s0 : tnF (gNm 5) _law_grown_l2 d (gE k m ws ps n p5 p6 p7 p8 p9 p10) = _law_grown_t4 (gE k m ws ps n (some (.v d)) (some (.L (fr.map pd))) q7 q8 p9 p10) := by
    rw [tnF_ap, gNm_ap, Ou.bn_ok]
    unfold _law_grown_l2
    rw [sq (ρ2 := gE k m ws ps n (some (.v d)) (some (.L [])) p7 p8 p9 p10)]
    rotate_left
    · simp
    unfold _law_grown_t5
    rw [sq (ρ2 := gE k m ws ps n (some (.v d)) (some (.L (fr.map pd))) q7 q8 p9 p10)]
    rotate_left
    · have x := xRng1_ok (ex := xVar 4) (ρ := gE k m ws ps n (some (.v d)) (some (.L [])) p7 p8 p9 p10) (ρ1 := gE k m ws ps n (some (.v d)) (some (.L [])) p7 p8 p9 p10) (m := n) rfl (by omega)
      rw [sFor_ap, x, Ou.bn_ok, e1]
  rw [s0]
  by_cases h0 : fr = []
  · subst h0
    refine ⟨k, ps, n, some (.v d), some (.L []), q7, q8, ?_, G, Nat.le_refl _, Nat.le_succ _, Nat.le_succ _⟩
    have ef' : eqD true (.lst []) (.lst []) = some (.v (.bl false)) := ef
    simp [_law_grown_t4, ef', -eqD_ap]
  · have hpos : 0 < fr.length := List.length_pos_iff.mpr h0
    obtain ⟨r, k1, er, hr⟩ := draw_ok k (fr.length : Int) (by omega) (by have := ok.len; omega)
    have hr' : r < fr.length := by omega
    have hi : fr[r]? = some fr[r] := List.getElem?_eq_getElem hr'
    obtain ⟨o1, o2, o3⟩ := ok.ok fr[r] (List.getElem_mem hr')
    generalize fr[r] = q at *
    obtain ⟨a, w⟩ := q
    have g1 : L2.atI (fr.map pd) (r : Int) = some (.tup [.int (a : Int), .str w]) := by
      rw [atI_nat, List.getElem?_map, hi]; rfl
    have hem : fr.isEmpty = false := by cases fr with
      | nil => exact absurd rfl h0
      | cons a l => rfl
    rw [hem] at ef
    have e2 := ends_add o3 (G.pa.fresh w) (by have := o1; omega)
    refine ⟨k1, ps ++ [⟨a, n, w⟩], n + 1, some (.v d), some (.L (fr.map pd)), some (.v (.int (a : Int))), some (.v (.str w)), ?_, G.grow o1 o2 o3, Nat.le_succ _, Nat.le_refl _, by simp⟩
    have st : (sSeq (sAsgG (xBin itemD (xVar 6) (xCal L02.m__law_draw (gIo 0 (gVal (xB lenD (kCons (xVar 6) kNil)) gNil)))) (gTp 2 (gsCons (gNm 7) (gsCons (gNm 8) gsNil)))) _law_grown_t3) (gE k m ws ps n (some (.v d)) (some (.L (fr.map pd))) q7 q8 p9 p10) =
        .ok .nx (gE k1 m ws (ps ++ [⟨a, n, w⟩]) (n + 1) (some (.v d)) (some (.L (fr.map pd))) (some (.v (.int (a : Int)))) (some (.v (.str w))) p9 p10) := by
      rw [sq (ρ2 := gE k1 m ws ps n (some (.v d)) (some (.L (fr.map pd))) (some (.v (.int (a : Int)))) (some (.v (.str w))) p9 p10)]
      rotate_left
      · simp [er, g1]
      unfold _law_grown_t3
      rw [sq (ρ2 := [some k1.c, some (.v (.int m)), some (.v (.lst (ws.map .str))), some (.dT (putD (endsL ps) (ek a w) (.int (n : Int)))), some (.v (.int (n : Int))), some (.v d), some (.L (fr.map pd)), some (.v (.int (a : Int))), some (.v (.str w)), p9, p10])]
      rotate_left
      · simp [put_ek, put2 (ps := ps) (by omega)]
      unfold _law_grown_t2
      rw [sq (ρ2 := gE k1 m ws (ps ++ [⟨a, n, w⟩]) n (some (.v d)) (some (.L (fr.map pd))) (some (.v (.int (a : Int)))) (some (.v (.str w))) p9 p10)]
      rotate_left
      · simp [put_ek, put2' (ps := ps) (by omega), e2]
      simp [_law_grown_t1]
    unfold _law_grown_t4
    rw [sIf_ap, tB_ap]
    have tt : xBin (eqD true) (xVar 6) (xLst aNil) (gE k m ws ps n (some (.v d)) (some (.L (fr.map pd))) q7 q8 p9 p10) = .ok (.v (.bl true)) (gE k m ws ps n (some (.v d)) (some (.L (fr.map pd))) q7 q8 p9 p10) := by
      have ef' : eqD true (.lst (fr.map pd)) (.lst []) = some (.v (.bl true)) := ef
      simp [ef', -eqD_ap]
    rw [tt]
    exact st
/-- a turn of further doors -/
theorem turn_more {k : Pu} {m : Int} {ws : List Str} {ps : List Dr} {n : Nat} (G : Gr n ws ps) (h0 : 0 < n) (hn : n ≤ 64) (hw : 0 < ws.length) (hz : ws.length ≤ 1000) (hp : ps.length ≤ 500) (d : D) (p5 p6 p7 p8 p9 p10 : Option C) : ∃ k' ps' q5 q6 q7 q8 q9 q10,
    tnF (gNm 5) _law_grown_l3 d (gE k m ws ps n p5 p6 p7 p8 p9 p10) = .ok .nx (gE k' m ws ps' n q5 q6 q7 q8 q9 q10) ∧ Gr n ws ps' ∧ ps'.length ≤ ps.length + 1 := by
  obtain ⟨a, k1, e1, h1⟩ := draw_ok k (n : Int) (by omega) (by omega)
  obtain ⟨b, k2, e2, h2⟩ := draw_ok k1 (n : Int) (by omega) (by omega)
  obtain ⟨r, k3, e3, h3⟩ := draw_ok k2 (ws.length : Int) (by omega) (by omega)
  have hr' : r < ws.length := by omega
  have hi : ws[r]? = some ws[r] := List.getElem?_eq_getElem hr'
  have hm : ws[r] ∈ ws := List.getElem_mem hr'
  generalize ws[r] = w at *
  have g1 : L2.atI (ws.map D.str) (r : Int) = some (.str w) := by
    rw [atI_nat, List.getElem?_map, hi]; rfl
  have s0 : tnF (gNm 5) _law_grown_l3 d (gE k m ws ps n p5 p6 p7 p8 p9 p10) = _law_grown_t7 (gE k3 m ws ps n (some (.v d)) p6 p7 (some (.v (.str w))) (some (.v (.int (a : Int)))) (some (.v (.int (b : Int))))) := by
    rw [tnF_ap, gNm_ap, Ou.bn_ok]
    unfold _law_grown_l3
    rw [sq (ρ2 := gE k3 m ws ps n (some (.v d)) p6 p7 (some (.v (.str w))) (some (.v (.int (a : Int)))) (some (.v (.int (b : Int)))))]
    simp [e1, e2, e3, g1]
  rw [s0]
  have no : ∀ z, _law_grown_t7 (gE k3 m ws ps n (some (.v d)) p6 p7 (some (.v (.str w))) (some (.v (.int (a : Int)))) (some (.v (.int (b : Int))))) = z → z = .ok .nx (gE k3 m ws ps n (some (.v d)) p6 p7 (some (.v (.str w))) (some (.v (.int (a : Int)))) (some (.v (.int (b : Int))))) →
      ∃ k' ps' q5 q6 q7 q8 q9 q10, z = .ok .nx (gE k' m ws ps' n q5 q6 q7 q8 q9 q10) ∧ Gr n ws ps' ∧ ps'.length ≤ ps.length + 1 := fun z _ e => ⟨_, _, _, _, _, _, _, _, e, G, Nat.le_succ _⟩
  by_cases c1 : a = b
  · refine no _ rfl ?_
    simp [_law_grown_t7, c1]
  · have c1' : ¬ (a : Int) = (b : Int) := by omega
    cases c2 : valD (endsL ps) (ek a w) with
    | some v => exact no _ rfl (by simp [_law_grown_t7, c1', in_ek, c2])
    | none =>
      cases c3 : valD (endsL ps) (ek b w) with
      | some v => exact no _ rfl (by simp [_law_grown_t7, c1', in_ek, c2, c3])
      | none =>
        have e4 := ends_add c2 c3 c1
        refine ⟨k3, ps ++ [⟨a, b, w⟩], some (.v d), p6, p7, some (.v (.str w)), some (.v (.int (a : Int))), some (.v (.int (b : Int))), ?_, G.more c1 (by omega) (by omega) hm c2 c3, by simp⟩
        have z1 := put2 (ps := ps) (by omega)
        have z2 := put2' (ps := ps) (by omega) (ek a w) (.int (b : Int))
        simp [_law_grown_t7, _law_grown_t6, c1', in_ek, c2, c3, put_ek, z1, z2, e4, sSeq_ap]
end L02
end TxtL02G

section TxtL02N
set_option Elab.async false
set_option linter.all false
set_option maxRecDepth 100000
/-! L02N: drawn houses. -/
namespace L02
open PySem PySem.Spec Dm

theorem grown_ok (k : Pu) {m : Nat} {ws : List Str} (hm0 : 0 < m) (hm : m ≤ 64) (hw : ∀ w ∈ ws, colS w = true) (hw0 : 0 < ws.length) (hz : ws.length ≤ 1000) : ∃ (n : Nat) (ps : List Dr) (k' : Pu), Gr n ws ps ∧ 0 < n ∧ n ≤ 64 ∧ ps.length ≤ 200 ∧
    m__law_grown [some k.c, some (.v (.int (m : Int))), some (.v (.lst (ws.map .str)))] = .ok (.v (.tup [.int (n : Int), .dT (endsL ps)])) [some k'.c, some (.v (.int (m : Int))), some (.v (.lst (ws.map .str)))] := by
  obtain ⟨r1, k1, e1, h1⟩ := draw_ok k (m : Int) (by omega) (by omega)
  obtain ⟨ρ1, f1, k2, ps1, n1, p5, p6, p7, p8, rfl, G1, a1, a2, a3⟩ := for_rngI (g := gNm 5) (b := _law_grown_l2) r1
    (fun i ρ => ∃ k ps n p5 p6 p7 p8, ρ = gE k (m : Int) ws ps n p5 p6 p7 p8 none none ∧ Gr n ws ps ∧ 1 ≤ n ∧ n ≤ 1 + i ∧ ps.length ≤ i)
    (fun i ρ hi ⟨k, ps, n, p5, p6, p7, p8, e, G, b1, b2, b3⟩ => by
      subst e
      obtain ⟨k', ps', n', q5, q6, q7, q8, e, G', c1, c2, c3⟩ := turn_grow (k := k) (m := (m : Int)) G (by omega) hw hz (by omega) (.int (i : Int)) p5 p6 p7 p8 none none
      exact ⟨_, e, k', ps', n', q5, q6, q7, q8, rfl, G', by omega, by omega, by omega⟩)
    (ρ := gE k1 (m : Int) ws [] 1 none none none none none none) ⟨k1, [], 1, none, none, none, none, rfl, ⟨⟨by simp, by simp, .nil⟩, by simp, fun S s0 _ h hh => (show h = 0 by omega) ▸ s0⟩, by omega, by omega, by simp⟩
  obtain ⟨r2, k3, e2, h2⟩ := draw_ok k2 (2 + (n1 : Int)) (by omega) (by omega)
  obtain ⟨ρ2, f2, k4, ps2, q5, q6, q7, q8, q9, q10, rfl, G2, b3⟩ := for_rngI (g := gNm 5) (b := _law_grown_l3) r2
    (fun i ρ => ∃ k ps p5 p6 p7 p8 p9 p10, ρ = gE k (m : Int) ws ps n1 p5 p6 p7 p8 p9 p10 ∧ Gr n1 ws ps ∧ ps.length ≤ 64 + i)
    (fun i ρ hi ⟨k, ps, p5, p6, p7, p8, p9, p10, e, G, b3⟩ => by
      subst e
      obtain ⟨k', ps', q5, q6, q7, q8, q9, q10, e, G', c3⟩ := turn_more (k := k) (m := (m : Int)) G (by omega) (by omega) hw0 hz (by omega) (.int (i : Int)) p5 p6 p7 p8 p9 p10
      exact ⟨_, e, k', ps', q5, q6, q7, q8, q9, q10, rfl, G', by omega⟩)
    (ρ := gE k3 (m : Int) ws ps1 n1 p5 p6 p7 p8 none none) ⟨k3, ps1, p5, p6, p7, p8, none, none, rfl, G1, by omega⟩
  refine ⟨n1, ps2, k4, G2, by omega, by omega, by omega, ?_⟩
  have step : b__law_grown [some k.c, some (.v (.int (m : Int))), some (.v (.lst (ws.map .str))), none, none, none, none, none, none, none, none] =
      .ok (.rt (.v (.tup [.int (n1 : Int), .dT (endsL ps2)]))) [some k4.c, some (.v (.int (m : Int))), some (.v (.lst (ws.map .str))), some (.v (.dT (endsL ps2))), some (.v (.int (n1 : Int))), q5, q6, q7, q8, q9, q10] := by
    unfold b__law_grown
    rw [sq (ρ2 := gE k (m : Int) ws [] 1 none none none none none none)]
    rotate_left
    · simp [endsL]
    unfold _law_grown_t10
    rw [sq (ρ2 := gE k2 (m : Int) ws ps1 n1 p5 p6 p7 p8 none none)]
    rotate_left
    · have x := xRng1_ok (ex := xCal m__law_draw (gIo 0 (gVal (xVar 1) gNil))) (ρ := gE k (m : Int) ws [] 1 none none none none none none) (ρ1 := gE k1 (m : Int) ws [] 1 none none none none none none) (m := r1) (by simp [e1]) (by omega)
      rw [sFor_ap, x, Ou.bn_ok, f1]
    unfold _law_grown_t9
    rw [sq (ρ2 := gE k4 (m : Int) ws ps2 n1 q5 q6 q7 q8 q9 q10)]
    rotate_left
    · have x := xRng1_ok (ex := xCal m__law_draw (gIo 0 (gVal (xBin addD (xC (.int 2)) (xVar 4)) gNil))) (ρ := gE k2 (m : Int) ws ps1 n1 p5 p6 p7 p8 none none) (ρ1 := gE k3 (m : Int) ws ps1 n1 p5 p6 p7 p8 none none) (m := r2) (by simp [e2]) (by omega)
      rw [sFor_ap, x, Ou.bn_ok, f2]
    simp [_law_grown_t8]
  simp [m__law_grown, pn__law_grown, fnM_ap, fin_ap, argOk, step]
/-! ### the doors of the ends -/
def nrm (x : Dr) : Dr := if x.a < x.b then x else ⟨x.b, x.a, x.w⟩
theorem doors_fm {n : Nat} {ps : List Dr} (P : Pairs n ps) : ∀ qs : List Dr, (∀ x ∈ qs, x ∈ ps) → ((endsL qs).map fun p => D.tup (p.1.map kD)).filterMap (fun d => match d with
    | .tup [.int h, .str w] => (match valD (endsL ps) [.inl h, .inr w] with
      | some (.int b) => if h < b then some (.tup [.int h, .int b, .str w]) else none
      | _ => none)
    | _ => none) = (qs.map nrm).map Dr.d
  | [], _ => rfl
  | x :: qs, hq => by
    have ih := doors_fm P qs fun y hy => hq y (List.mem_cons_of_mem _ hy)
    have hx := hq x List.mem_cons_self
    have va := P.val_a hx
    have vb := P.val_b hx
    have ne := P.ne x hx
    unfold ek at va vb
    have e : endsL (x :: qs) = (ek x.a x.w, .int (x.b : Int)) :: (ek x.b x.w, .int (x.a : Int)) :: endsL qs := rfl
    rw [e, List.map_cons, List.map_cons, List.filterMap_cons, List.filterMap_cons, ih]
    simp only [ek, List.map_cons, List.map_nil, kD, va, vb]
    by_cases h : x.a < x.b
    · have h' : ¬ (x.b : Int) < (x.a : Int) := by omega
      have h2 : (x.a : Int) < (x.b : Int) := by omega
      simp [h, h', h2, nrm, Dr.d]
    · have h' : (x.b : Int) < (x.a : Int) := by omega
      have h2 : ¬ (x.a : Int) < (x.b : Int) := by omega
      simp [h, h', h2, nrm, Dr.d]
theorem doors_ok {n : Nat} {ps : List Dr} (P : Pairs n ps) (hz : ps.length ≤ 1000) : m__law_doors [some (.v (.dT (endsL ps)))] = .ok (.v (gatesD (sortDr (ps.map nrm)))) [some (.v (.dT (endsL ps)))] := by
  have x : lcL (gTp 2 (gsCons (gNm 1) (gsCons (gNm 2) gsNil))) _law_doors_q1 _law_doors_e1 [1, 2] ((endsL ps).map fun p => D.tup (p.1.map kD)) [] [some (.v (.dT (endsL ps))), none, none] = .ok (((ps.map nrm)).map Dr.d) [some (.v (.dT (endsL ps))), none, none] := by
    rw [lc_map (fun d => match d with
    | .tup [.int h, .str w] => (match valD (endsL ps) [.inl h, .inr w] with
      | some (.int b) => if h < b then some (.tup [.int h, .int b, .str w]) else none
      | _ => none)
    | _ => none) _ (fun d hd => ?_) (by rw [List.length_map, endsL_len]; omega), doors_fm P ps fun _ h => h]
    obtain ⟨⟨kk, vv⟩, hm, rfl⟩ := List.mem_map.mp hd
    have key : ∀ (h b : Nat) (w : Str), valD (endsL ps) (ek h w) = some (.int (b : Int)) → tnL (gTp 2 (gsCons (gNm 1) (gsCons (gNm 2) gsNil))) _law_doors_q1 _law_doors_e1 [1, 2] (.tup [.int (h : Int), .str w]) [some (.v (.dT (endsL ps))), none, none] =
        .ok (if (h : Int) < (b : Int) then some (.tup [.int (h : Int), .int (b : Int), .str w]) else none) [some (.v (.dT (endsL ps))), none, none] := fun h b w e => by
      by_cases c : h < b
      · have c' : (h : Int) < (b : Int) := by omega
        simp [_law_doors_q1, _law_doors_e1, item_ek, e, c, c']
      · have c' : ¬ (h : Int) < (b : Int) := by omega
        simp [_law_doors_q1, _law_doors_e1, item_ek, e, c, c']
    obtain ⟨x, hx, ⟨rfl, rfl⟩ | ⟨rfl, rfl⟩⟩ := endsL_mem.mp hm
    · have va := P.val_a hx
      have := key x.a x.b x.w va
      unfold ek at va ⊢
      simp only [List.map_cons, List.map_nil, kD, va]
      exact this
    · have va := P.val_b hx
      have := key x.b x.a x.w va
      unfold ek at va ⊢
      simp only [List.map_cons, List.map_nil, kD, va]
      exact this
  have so : sortOk ((ps.map nrm).map Dr.d) = true := sortOk_dr (by rw [List.length_map]; omega)
  have sd := sortD_dr (ps.map nrm)
  simp [m__law_doors, b__law_doors, pn__law_doors, fnM_ap, fin_ap, argOk, xLcK_ap, xLc_ap, x, so, sd, -List.map_map]
theorem nrm_w (x : Dr) : (nrm x).w = x.w := by unfold nrm; split <;> rfl
theorem colsL_few {ws : List Str} {ds : List Dr} (h : ∀ x ∈ ds, x.w ∈ ws) : (colsL ds).length ≤ ws.length :=
  List.Nodup.length_le_of_subset (colsL_nodup ds) fun v hv => by
    obtain ⟨x, hx, rfl⟩ := colsL_mem.mp hv
    exact h x hx
theorem Gr.house {n : Nat} {ws : List Str} {ps : List Dr} (G : Gr n ws ps) (h0 : 0 < n) (hn : n ≤ 64) (hw : ∀ w ∈ ws, colS w = true) (hz : ws.length ≤ 16) (hp : ps.length ≤ 1000) : Hs n (sortDr (ps.map nrm)) := by
  have nm : ∀ x, (nrm x = x ∧ x.a < x.b) ∨ (nrm x = ⟨x.b, x.a, x.w⟩ ∧ ¬ x.a < x.b) := fun x => by
    unfold nrm
    by_cases h : x.a < x.b
    · exact .inl ⟨if_pos h, h⟩
    · exact .inr ⟨if_neg h, h⟩
  refine ⟨h0, hn, Doors.of (fun y hy => ?_) ?_ ?_ (by rw [List.length_map]; exact hp), ?_⟩
  · obtain ⟨x, hx, rfl⟩ := List.mem_map.mp hy
    have l := G.pa.lt x hx
    have ne := G.pa.ne x hx
    have c := hw _ (G.wd x hx)
    rcases nm x with ⟨e, h⟩ | ⟨e, h⟩
    · rw [e]; exact ⟨h, l.2, c⟩
    · rw [e]; exact ⟨by show x.b < x.a; omega, l.1, c⟩
  · rw [List.pairwise_map]
    refine List.Pairwise.imp (fun {x y} h => ?_) G.pa.free
    intro e
    rw [nrm_w, nrm_w] at e
    obtain ⟨a, b, c, d⟩ := h e
    rcases nm x with ⟨ex, _⟩ | ⟨ex, _⟩ <;> rcases nm y with ⟨ey, _⟩ | ⟨ey, _⟩ <;> rw [ex, ey]
    · exact ⟨a, b, c, d⟩
    · exact ⟨b, a, d, c⟩
    · exact ⟨c, d, a, b⟩
    · exact ⟨d, c, b, a⟩
  · refine Nat.le_trans (colsL_few (ws := ws) fun y hy => ?_) hz
    obtain ⟨x, hx, rfl⟩ := List.mem_map.mp hy
    rw [nrm_w]
    exact G.wd x hx
  · refine Conn.perm (sortDr_perm _).symm fun S s0 sc => G.co S s0 fun x hx => ?_
    have := sc (nrm x) (List.mem_map_of_mem hx)
    rcases nm x with ⟨e, _⟩ | ⟨e, _⟩ <;> rw [e] at this
    · exact this
    · exact this.symm
theorem drawn_ok (k : Pu) : ∃ (n : Nat) (ds : List Dr) (k' : Pu), Hs n ds ∧ m__law_drawn [some k.c] = .ok (.v (.tup [.int (n : Int), gatesD ds])) [some k'.c] := by
  obtain ⟨r, k1, e1, h1⟩ := draw_ok k 8 (by decide) (by decide)
  obtain ⟨wide, m1, m2, wv, w1, w2, hm1, hm2, hm3⟩ : ∃ (wide : Int) (m1 m2 : Nat), (if (r : Int) = 3 then (1 : Int) else 0) = wide ∧ L2.atI [D.int 5, D.int 16] wide = some (.int (m1 : Int)) ∧ L2.atI [D.int 12, D.int 64] wide = some (.int (m2 : Int)) ∧ (0 < m1 ∧ m1 ≤ 16) ∧ 0 < m2 ∧ m2 ≤ 64 := by
    by_cases h : (r : Int) = 3
    · exact ⟨1, 16, 64, by rw [if_pos h], rfl, rfl, by decide, by decide, by decide⟩
    · exact ⟨0, 5, 12, by rw [if_neg h], rfl, rfl, by decide, by decide, by decide⟩
  obtain ⟨r2, k2, e2, h2⟩ := draw_ok k1 (m1 : Int) (by omega) (by omega)
  obtain ⟨ws, k3, e3, W⟩ := words_ok (n := 1 + r2) k2 (by omega)
  have hl := W.n
  obtain ⟨n, ps, k4, G, a1, a2, a3, e4⟩ := grown_ok k3 (m := m2) (ws := ws) hm2 hm3 W.col (by omega) (by omega)
  have e5 := doors_ok G.pa (by omega)
  refine ⟨n, sortDr (ps.map nrm), k4, G.house a1 a2 W.col (by omega) (by omega), ?_⟩
  have step : b__law_drawn [some k.c, none, none, none, none] = .ok (.rt (.v (.tup [.int (n : Int), gatesD (sortDr (ps.map nrm))]))) [some k4.c, some (.v (.int wide)), some (.v (.lst (ws.map .str))), some (.v (.int (n : Int))), some (.v (.dT (endsL ps)))] := by
    unfold b__law_drawn
    rw [sq (ρ2 := [some k1.c, some (.v (.int wide)), none, none, none])]
    rotate_left
    · have q : (if (r : Int) = 3 then (1 : Int) else 0) = wide := wv
      by_cases h : (r : Int) = 3
      · rw [if_pos h] at q; subst q
        simp [e1, h]
      · rw [if_neg h] at q; subst q
        simp [e1, h]
    unfold _law_drawn_t3
    rw [sq (ρ2 := [some k3.c, some (.v (.int wide)), some (.L (ws.map .str)), none, none])]
    rotate_left
    · have e3' : m__law_words [some k2.c, some (.v (.int (1 + (r2 : Int))))] = .ok (.o (.L (ws.map .str))) [some k3.c, some (.v (.int (1 + (r2 : Int))))] := by
        have := e3
        simp only [aN, Int.natCast_add, Int.cast_ofNat_Int] at this
        exact this
      simp [w1, e2, e3']
    unfold _law_drawn_t2
    rw [sq (ρ2 := [some k4.c, some (.v (.int wide)), some (.v (.lst (ws.map .str))), some (.v (.int (n : Int))), some (.v (.dT (endsL ps)))])]
    rotate_left
    · simp [w2, e4]
    simp [_law_drawn_t1, e5]
  simp [m__law_drawn, pn__law_drawn, fnM_ap, fin_ap, argOk, step]
end L02
end TxtL02N

section TxtL02O
set_option Elab.async false
set_option linter.all false
set_option maxRecDepth 100000
/-! L02O: what is asked of a house; the law's check of one house. -/
namespace L02
open PySem PySem.Spec Dm

section
variable {n : Nat} {ds : List Dr}
theorem make_ok (H : Hs n ds) (ρ : En) : mkM "House" m_House___init__ [.inr ρ.length, .inl (.int (n : Int)), .inl (gatesD ds)] ρ = .ok (.v (houseD n ds)) ρ := by
  have e := init_ok H
  have g : (ρ ++ [some (C.O "House" [])])[ρ.length]? = some (some (.O "House" [])) := by simp
  have c : conts (ρ ++ [some (C.O "House" [])]) [.inr ρ.length, .inl (.int (n : Int)), .inl (gatesD ds)] = some [some (.O "House" []), some (.v (.int (n : Int))), some (.v (gatesD ds))] := by simp [g]
  have nd : (ioOf [.inr ρ.length, .inl (.int (n : Int)), .inl (gatesD ds)]).Nodup := by simp
  have cm : calM m_House___init__ [.inr ρ.length, .inl (.int (n : Int)), .inl (gatesD ds)] (ρ ++ [some (C.O "House" [])]) = .ok (.v .non) (ρ ++ [some (.v (houseD n ds))]) := by
    rw [calM_ap, c]
    simp only
    rw [if_pos nd, e]
    simp
  unfold mkM
  rw [cm]
  simp
theorem fh_ends : fldD "ends" (houseD n ds) = some (.v (.dT (endsL ds))) := fld_ends _ _ _
theorem fh_halls : fldD "halls" (houseD n ds) = some (.v (.int (n : Int))) := fld_halls _ _ _
theorem fh_doors : fldD "doors" (houseD n ds) = some (.v (gatesD ds)) := fld_doors _ _ _
theorem rcv_house {mn : Str} {ρ : En} (h : mn ∈ (["colours", "through", "doors_at", "opened", "shut", "recoloured", "renumbered"] : List Str)) : rcvV "House" mn (.v (houseD n ds)) ρ = some (.inl (houseD n ds), ρ) := by
  have nm := no_meth (.dT (endsL ds)) (.int (n : Int)) (gatesD ds) mn h
  rw [rcvV_ap]
  unfold houseD hD
  simp only [toVal_v, nm, and_self, if_true]
theorem spI_house {m : Fm} {f : R → En → Ou R} {eo : En → Ou R} {ρ ρ1 : En} (h : vl eo ρ = .ok (houseD n ds) ρ1) : xSpI "House" m f eo ρ = (calM m [.inl (houseD n ds)] ρ1).bn f := by
  rw [xSpI_ap, h, Ou.bn_ok]
  show (if ("House" : Str) = "House" then _ else _) = _
  rw [if_pos rfl]
  rfl
theorem colours_house (H : Hs n ds) : m_House_colours [some (.v (houseD n ds))] = .ok (.v (.tup ((colsOf ds).map .str))) [some (.v (houseD n ds))] := colours_ok H.dr.few
theorem len_step {h : D} {n : Int} (e : fldD "halls" h = some (.v (.int n))) (r : rgOk 0 n = true) : xRgB (kCons (xUn (fldD "halls") (xVar 0)) kNil) [some (.v h)] = .ok (0, n) [some (.v h)] := by
  simp [e, r]
theorem len_step2 {h : D} {n : Int} (st : xRgB (kCons (xUn (fldD "halls") (xVar 0)) kNil) [some (.v h)] = .ok (0, n) [some (.v h)]) : m_House___len__ [some (.v h)] = .ok (.v (.int (n.toNat : Int))) [some (.v h)] := by
  simp [m_House___len__, b_House___len__, pn_House___len__, fnM_ap, fin_ap, argOk, st, -xRgB_ap]
theorem len_house (H : Hs n ds) : m_House___len__ [some (.v (houseD n ds))] = .ok (.v (.int (n : Int))) [some (.v (houseD n ds))] := by
  have r : rgOk 0 (n : Int) = true := rgOk_nat (by omega) (by have := H.le; omega)
  exact len_step2 (len_step fh_halls r)
def numS (n : Nat) : Str := Str.ofString (toString (n : Int))
theorem num_shows {n : Nat} (h : n < 1000000000000) : Shows (.int (n : Int)) 13 0 := Shows.int (by omega)
theorem numS_asc {n : Nat} (h : n < 1000000000000) : AscS (numS n) := by
  have := (num_shows h).asc
  simp only [PyData.shown] at this
  exact this
theorem numS_len {n : Nat} (h : n < 1000000000000) : (numS n).length ≤ 13 := by
  have := (num_shows h).ln
  simp only [PyData.shown] at this
  exact this
theorem log_small {n : Nat} (h : n < 1000000000000) : ((n : Int)).natAbs.log2 < 1920 := lt_log2 (by
  rw [Int.natAbs_natCast]
  exact Nat.lt_trans h (by decide +kernel)) (by decide)
theorem fmt_num {n : Nat} (h : n < 1000000000000) : fmtD (.int (n : Int)) = some (.v (.str (numS n))) := by
  rw [fmtD_i, if_pos (log_small h)]
  rfl
theorem str_num {n : Nat} (h : n < 1000000000000) : strD [.int (n : Int)] = some (.v (.str (numS n))) := by
  rw [strD_i, if_pos (log_small h)]
  rfl
def reprS (n k : Nat) : Str := "House(" ++ numS n ++ " halls, " ++ numS k ++ " doors)"
theorem empty_app (x : Str) : Str.empty ++ x = x := by
  apply str_ext
  rw [app_cps]
  rfl
theorem repr_house (H : Hs n ds) : m_House___repr__ [some (.v (houseD n ds))] = .ok (.v (.str (reprS n ds.length))) [some (.v (houseD n ds))] := by
  have e1 := fh_halls (n := n) (ds := ds)
  have e2 := fh_doors (n := n) (ds := ds)
  have hn : n < 1000000000000 := by have := H.le; omega
  have hk : ds.length < 1000000000000 := by have := H.dr.many; omega
  have l1 := fmt_num hn
  have l2 := fmt_num hk
  have z1 := numS_len hn
  have z2 := numS_len hk
  have c1 : (Str.ofString "House(").length = 6 := by decide +kernel
  have c2 : (Str.ofString " halls, ").length = 8 := by decide +kernel
  have c3 : (Str.ofString " doors)").length = 7 := by decide +kernel
  generalize houseD n ds = h at *
  have y1 : (Str.ofString "House(").length ≤ 16777216 := by omega
  have y2 : (Str.ofString "House(").length + (numS n).length ≤ 16777216 := by omega
  have y3 : (Str.ofString "House(").length + (numS n).length + (Str.ofString " halls, ").length ≤ 16777216 := by omega
  have y4 : (Str.ofString "House(").length + (numS n).length + (Str.ofString " halls, ").length + (numS ds.length).length ≤ 16777216 := by omega
  have y5 : (Str.ofString "House(").length + (numS n).length + (Str.ofString " halls, ").length + (numS ds.length).length + (Str.ofString " doors)").length ≤ 16777216 := by omega
  simp [m_House___repr__, b_House___repr__, pn_House___repr__, fnM_ap, fin_ap, argOk, reprS, e1, e2, l1, l2, empty_app, app_len, y1, y2, y3, y4, y5, -fmtD_i]
end
end L02
end TxtL02O

section TxtDm43
set_option Elab.async false
set_option linter.all false
set_option maxRecDepth 100000
/-! Dm43: steps over any mirrors (the kernel must not meet closed ones): rows, defs' ends. -/
namespace Dm
open PySem PySem.Spec PyProof.Rows

section
variable {e : En → Ou R} {r : En → Ou (List D)} {ρ ρ1 ρ2 ρ' : En} {d : D} {l : List D} {c : C} {n N : Nat} {pn : Nat → Bool} {b : En → Ou Fl}
theorem aCons_ok (h1 : vl e ρ = .ok d ρ1) (h2 : r ρ1 = .ok l ρ2) : aCons e r ρ = .ok (d :: l) ρ2 := by
  rw [aCons_ap, h1, Ou.bn_ok, h2, Ou.bn_ok]
theorem aCons_st (h1 : vl e ρ = .ok d ρ) (h2 : r ρ = .ok l ρ) : aCons e r ρ = .ok (d :: l) ρ := aCons_ok h1 h2
theorem xLst_ok {a : En → Ou (List D)} (h : a ρ = .ok l ρ1) (hz : l.length ≤ 16777216) : xLst a ρ = .ok (.o (.L l)) ρ1 := by
  rw [xLst_ap, h, Ou.bn_ok, if_pos (by rw [sizeLine_num]; exact hz)]
theorem xTup_ok {a : En → Ou (List D)} (h : a ρ = .ok l ρ1) (hz : l.length ≤ 16777216) : xTup a ρ = .ok (.v (.tup l)) ρ1 := by
  rw [xTup_ap, h, Ou.bn_ok, if_pos (by rw [sizeLine_num]; exact hz)]
theorem vl_v (h : e ρ = .ok (.v d) ρ1) : vl e ρ = .ok d ρ1 := by rw [vl_ap, h]; rfl
theorem vl_o (h : e ρ = .ok (.o c) ρ1) : vl e ρ = .ok c.toD ρ1 := by rw [vl_ap, h]; rfl
/-- a def that returns data -/
theorem fn_v (h : b (ρ ++ List.replicate (N - n) none) = .ok (.rt (.v d)) ρ') (hl : ρ.length = n) (ha : (rg n).all (argOk pn ρ) = true) (hf : fin n pn ρ ρ' = ρ2) : fnM n N pn b ρ = .ok (.v d) ρ2 := by
  rw [fnM_ap, if_pos ⟨hl, ha⟩, h, ← hf]
theorem fn_o (h : b (ρ ++ List.replicate (N - n) none) = .ok (.rt (.o c)) ρ') (hl : ρ.length = n) (ha : (rg n).all (argOk pn ρ) = true) (hf : fin n pn ρ ρ' = ρ2) : fnM n N pn b ρ = .ok (.o c) ρ2 := by
  rw [fnM_ap, if_pos ⟨hl, ha⟩, h, ← hf]
theorem fn_n (h : b (ρ ++ List.replicate (N - n) none) = .ok .nx ρ') (hl : ρ.length = n) (ha : (rg n).all (argOk pn ρ) = true) (hf : fin n pn ρ ρ' = ρ2) : fnM n N pn b ρ = .ok (.v .non) ρ2 := by
  rw [fnM_ap, if_pos ⟨hl, ha⟩, h, ← hf]
theorem fn_e (h : b (ρ ++ List.replicate (N - n) none) = .er d ρ') (hl : ρ.length = n) (ha : (rg n).all (argOk pn ρ) = true) (hf : fin n pn ρ ρ' = ρ2) : fnM n N pn b ρ = .er d ρ2 := by
  rw [fnM_ap, if_pos ⟨hl, ha⟩, h, ← hf]
theorem sFor_seq {g : D → En → Ou Unit} {ds : List D} (h : vl e ρ = .ok d ρ1) (hi : itemsD d = some ds) : sFor (iSeq e) g b ρ = forL g b ds ρ1 := by
  rw [sFor_ap, iSeq_ap, h, Ou.bn_ok, hi, Ou.bn_ok]
theorem sFor_rng {g : D → En → Ou Unit} {m : Nat} (h : vl e ρ = .ok (.int (m : Int)) ρ1) (hm : m ≤ 16777216) : sFor (xRng1 e) g b ρ = forL g b (rngD 0 (m : Int)) ρ1 := by
  rw [sFor_ap, xRng1_ok h hm, Ou.bn_ok]
theorem xLc_seq {g : D → En → Ou Unit} {t : En → Ou Bool} {x : En → Ou R} {vs : List Nat} {ds out : List D} {ρb : En} (h : vl e ρ = .ok d ρ1) (hi : itemsD d = some ds) (hl : lcL g t x vs ds [] (wipE ρ1 vs) = .ok out ρb) : xLc (iSeq e) g t x vs ρ = .ok (.o (.L out)) (unw ρ1 ρb vs) := by
  rw [xLc_ap, iSeq_ap, h, Ou.bn_ok, hi, Ou.bn_ok, hl]
  rfl
/-- a call by the def's promise: arguments that are data -/
theorem cal_v {m : Fm} {a : En → Ou (List Ar)} {ds : List D} {x : R} (ha : a ρ = .ok (ds.map .inl) ρ1) (hm : m (ds.map fun d => some (.v d)) = .ok x (ds.map fun d => some (.v d))) : xCal m a ρ = .ok x ρ1 := by
  have c : ∀ ds : List D, conts ρ1 (ds.map .inl) = some (ds.map fun d => some (.v d)) := fun ds => by
    induction ds with
    | nil => rfl
    | cons d ds ih => rw [List.map_cons, conts_inl, ih]; rfl
  have i : ∀ ds : List D, ioOf (ds.map Sum.inl) = [] := fun ds => by
    induction ds with
    | nil => rfl
    | cons d ds ih => rw [List.map_cons, ioOf_inl, ih]
  have k : ∀ (ds : List D) (os : En), os.length = ds.length → backs (ds.map .inl) os ρ1 = ρ1 := fun ds => by
    induction ds with
    | nil => intro os _; exact backs_nil
    | cons d ds ih =>
      intro os h
      cases os with
      | nil => cases h
      | cons o os => rw [List.map_cons, backs_inl]; exact ih os (by simpa using h)
  rw [xCal_ap, ha, Ou.bn_ok, calM_ap, c ds]
  simp only
  rw [if_pos (by rw [i]; exact List.nodup_nil), hm]
  simp only [if_true]
  rw [k ds _ (by simp)]
/-- 'if not m(..): ..' where m says True -/
theorem guard_ok {m : Fm} {a : En → Ou (List Ar)} {x : En → Ou Fl} {ds : List D} (ha : a ρ = .ok (ds.map .inl) ρ1) (hm : m (ds.map fun d => some (.v d)) = .ok (.v (.bl true)) (ds.map fun d => some (.v d))) : sIf (tNotX (tTr (xCal m a))) x sNil ρ = .ok .nx ρ1 := by
  rw [sIf_ap, tNotX_ap, tTr_ap, cal_v ha hm]
  rfl
end
end Dm
end TxtDm43

section TxtL02Q
set_option Elab.async false
set_option linter.all false
set_option maxRecDepth 100000
/-! L02Q: the law's check of one house. -/
namespace L02
open PySem PySem.Spec Dm

theorem app_asc {x y : Str} (hx : AscS x) (hy : AscS y) : AscS (x ++ y) := AscS.app hx hy
theorem lit_asc {z : Str} (h : z.cps.toList.all (fun c => decide (c < 128)) = true) : AscS z := AscS.of h
theorem reprS_asc {n k : Nat} (hn : n < 1000000000000) (hk : k < 1000000000000) : AscS (reprS n k) :=
  app_asc (app_asc (app_asc (app_asc (lit_asc (by decide +kernel)) (numS_asc hn)) (lit_asc (by decide +kernel))) (numS_asc hk)) (lit_asc (by decide +kernel))
theorem reprS_len {n k : Nat} (hn : n < 1000000000000) (hk : k < 1000000000000) : (reprS n k).length ≤ 100 := by
  have z1 := numS_len hn
  have z2 := numS_len hk
  have c1 : (Str.ofString "House(").length = 6 := by decide +kernel
  have c2 : (Str.ofString " halls, ").length = 8 := by decide +kernel
  have c3 : (Str.ofString " doors)").length = 7 := by decide +kernel
  unfold reprS
  rw [app_len, app_len, app_len, app_len, c1, c2, c3]
  omega
/-! what can be shown -/
theorem Dr.shows {n : Nat} {x : Dr} (h : x.Ok n) (hn : n ≤ 1000) : Shows x.p 108 1 := by
  have l := colS_len h.co
  have s1 : Shows (.int (x.a : Int)) 13 0 := Shows.int (by have := h.ab; have := h.bn; omega)
  have s2 : Shows (.int (x.b : Int)) 13 0 := Shows.int (by have := h.bn; omega)
  have s3 := Shows.str (colS_asc h.co)
  exact (Shows.tuple (ShowsAll.cons s1 (ShowsAll.cons s2 (ShowsAll.cons s3 ShowsAll.nil)))).mono (by omega) (Nat.le_refl _)
theorem gates_py (ds : List Dr) : (gatesD ds).py = some (.tuple (ds.map Dr.p)) := by simp [Dr.pys]
theorem gates_shows {n : Nat} {ds : List Dr} (h : ∀ x ∈ ds, x.Ok n) (hn : n ≤ 1000) (hz : ds.length ≤ 1000) : Shows (.tuple (ds.map Dr.p)) 200000 2 := by
  have := ShowsAll.of (ps := ds.map Dr.p) (a := 108) (k := 1) fun p hp => by
    obtain ⟨x, hx, rfl⟩ := List.mem_map.mp hp
    exact Dr.shows (h x hx) hn
  refine (Shows.tuple this).mono ?_ (Nat.le_refl _)
  rw [List.length_map]
  have := Nat.mul_le_mul_right (108 + 2) hz
  omega
theorem strs_shows {ws : List Str} (h : ∀ w ∈ ws, colS w = true) (hz : ws.length ≤ 1000) : Shows (.tuple (ws.map .str)) 100000 2 := by
  have := ShowsAll.of (ps := ws.map .str) (a := 62) (k := 0) fun p hp => by
    obtain ⟨x, hx, rfl⟩ := List.mem_map.mp hp
    have l := colS_len (h x hx)
    exact (Shows.str (colS_asc (h x hx))).mono (by omega) (Nat.le_refl _)
  refine (Shows.tuple this).mono ?_ (by omega)
  rw [List.length_map]
  have := Nat.mul_le_mul_right (62 + 2) hz
  omega
section
variable {n : Nat} {ds : List Dr}
theorem Hs.col (H : Hs n ds) : ∀ w ∈ colsOf ds, colS w = true := fun w hw => by
  obtain ⟨x, hx, rfl⟩ := colsOf_mem.mp hw
  exact (H.dr.ok x hx).co
theorem colsOf_len (ds : List Dr) : (colsOf ds).length = (colsL ds).length := (sortS_perm _).length_eq
def dueL (n : Nat) (ds : List Dr) : List D := [.int (n : Int), gatesD ds, .int (n : Int), .tup ((colsOf ds).map .str), .str (reprS n ds.length), .bl true]
theorem due_ok (H : Hs n ds) : ∃ z : Str, reprD [.lst (dueL n ds)] = some (.v (.str z)) ∧ AscS z := by
  have hn : n < 1000000000000 := by have := H.le; omega
  have hk : ds.length < 1000000000000 := by have := H.dr.many; omega
  have s1 : Shows (.int (n : Int)) 13 0 := Shows.int (by have := H.le; omega)
  have s2 := gates_shows H.dr.ok (by have := H.le; omega) H.dr.many
  have s3 := strs_shows H.col (by rw [colsOf_len]; have := H.dr.few; omega)
  have s4 := Shows.str (reprS_asc hn hk)
  have l4 := reprS_len hn hk
  have s5 := Shows.bl true
  have mk : ∀ {p : PyData} {m k : Nat}, Shows p m k → k ≤ 2 → Shows p m 2 := fun h hk => h.mono (Nat.le_refl _) hk
  have S := Shows.list (ShowsAll.cons (mk s1 (by omega)) (ShowsAll.cons s2 (ShowsAll.cons (mk s1 (by omega)) (ShowsAll.cons s3 (ShowsAll.cons (mk s4 (by omega)) (ShowsAll.cons (mk s5 (by omega)) ShowsAll.nil))))))
  have e : (D.lst (dueL n ds)).py = some (.list [.int (n : Int), .tuple (ds.map Dr.p), .int (n : Int), .tuple ((colsOf ds).map .str), .str (reprS n ds.length), .bool true]) := by
    unfold dueL
    simp [Dr.pys, -List.map_map]
  exact ⟨_, Shows.repr e S rfl (by rw [sizeLine_num]; omega) (by omega), S.asc⟩
theorem keys_ws : ∀ ws : List Str, keysD (ws.map .str) = some (ws.map Sum.inr)
  | [] => rfl
  | w :: ws => by
    show (match keyD (.str w), keysD (ws.map .str) with
      | some k, some ks => some (k :: ks)
      | _, _ => none) = _
    rw [keys_ws ws]
    rfl
theorem adds_fold : ∀ (ds : List Dr) (cs : List Str), (ds.map fun x => (Sum.inr x.w : L2.Key)).foldl addK (cs.map Sum.inr) = (ds.foldl (fun cs x => addC cs x.w) cs).map Sum.inr
  | [], cs => rfl
  | x :: ds, cs => by
    rw [List.map_cons, List.foldl_cons, addK_str, adds_fold ds]
    rfl
theorem set_ws (hz : ds.length ≤ 1000) : setD [.lst ((ds.map Dr.w).map .str)] = some ((colsL ds).map Sum.inr) := by
  show (keysD ((ds.map Dr.w).map .str)).bind _ = _
  rw [keys_ws, Option.bind_some, if_pos (by rw [List.length_map, List.length_map, scan_num]; omega)]
  have := adds_fold ds []
  rw [List.map_map]
  exact congrArg some this
theorem tint_lc {ρ : En} {i : Nat} {e : En → Ou R} (hz : ds.length ≤ 1000) (h : ∀ x : Dr, tnL (gNm i) tTrue e [i] x.d ρ = .ok (some (.str x.w)) ρ) : lcL (gNm i) tTrue e [i] (ds.map Dr.d) [] ρ = .ok ((ds.map Dr.w).map .str) ρ := by
  rw [lc_map (fun d => match d with
    | .tup [_, _, .str w] => some (.str w)
    | _ => none) _ (fun d hd => ?_) (by rw [List.length_map]; omega)]
  · congr 1
    induction ds with
    | nil => rfl
    | cons x ds ih =>
      have := ih (by simp at hz; omega)
      simp only [List.map_cons, List.filterMap_cons, this, Dr.d]
  · obtain ⟨x, _, rfl⟩ := List.mem_map.mp hd
    exact h x
theorem row_right {mL mC mR : Fm} {h g : D} {N : Int} {cs : List D} {z : Str} {p0 p1 p2 p3 p4 p5 : Option C} (e1 : fldD "halls" h = some (.v (.int N))) (e2 : fldD "doors" h = some (.v g)) (e3 : mL [some (.v h)] = .ok (.v (.int N)) [some (.v h)]) (b1 : 0 ≤ N ∧ N < 9223372036854775808) (b2 : (N != 0) = true)
    (e4 : mC [some (.v h)] = .ok (.v (.tup cs)) [some (.v h)]) (e5 : mR [some (.v h)] = .ok (.v (.str z)) [some (.v h)]) (r1 : ∀ ρ, rcvV "House" "colours" (.v h) ρ = some (.inl h, ρ))
    (sp : ∀ {m : Fm} {f : R → En → Ou R} {ρ : En}, ρ[6]? = some (some (.v h)) → xSpI "House" m f (xVar 6) ρ = (calM m [.inl h] ρ).bn f) :
    (xLst (aCons (xUn (fldD "halls") (xVar 6)) (aCons (xUn (fldD "doors") (xVar 6)) (aCons (xSpI "House" mL lenB (xVar 6)) (aCons (xMthV "House" "colours" mC [0] [] (xVar 6) gNil gNil) (aCons (xSpI "House" mR repB (xVar 6)) (aCons (xSpI "House" mL booB (xVar 6)) aNil))))))) [p0, p1, p2, p3, p4, p5, some (.v h)] =
      .ok (.o (.L [.int N, g, .int N, .tup cs, .str z, .bl true])) [p0, p1, p2, p3, p4, p5, some (.v h)] :=
  xLst_ok (aCons_st (by simp [e1]) (aCons_st (by simp [e2]) (aCons_st (by simp [sp, e3, b1]) (aCons_st (by simp [xMthV_ap, r1, e4]) (aCons_st (by simp [sp, e5]) (aCons_st (by simp [sp, e3, b1, b2]) rfl)))))) (by show 6 ≤ 16777216; omega)
theorem turn_right (H : Hs n ds) {z : Str} (hz : reprD [.lst (dueL n ds)] = some (.v (.str z))) (ha : AscS z) (p2 p4 p5 p6 : Option C) :
    tnF (gNm 6) _law_right_l1 (houseD n ds) [some (.v (.int (n : Int))), some (.v (gatesD ds)), p2, some (.v (.str z)), p4, p5, p6] = .ok .nx [some (.v (.int (n : Int))), some (.v (gatesD ds)), p2, some (.v (.str z)), p4, p5, some (.v (houseD n ds))] := by
  have e1 := fh_halls (n := n) (ds := ds)
  have e2 := fh_doors (n := n) (ds := ds)
  have e3 := len_house H
  have e4 := colours_house H
  have e5 := repr_house H
  have r1 : ∀ ρ, rcvV "House" "colours" (.v (houseD n ds)) ρ = some (.inl (houseD n ds), ρ) := fun ρ => rcv_house (by simp)
  have b1 : 0 ≤ (n : Int) ∧ (n : Int) < 9223372036854775808 := by have := H.le; omega
  have b2 : ((n : Int) != 0) = true := by have := H.pos; simp; omega
  have eq := eq_same (neg := true) ha
  have sp : ∀ {m : Fm} {f : R → En → Ou R} {ρ : En}, ρ[6]? = some (some (.v (houseD n ds))) → xSpI "House" m f (xVar 6) ρ = (calM m [.inl (houseD n ds)] ρ).bn f := fun {m f ρ} h => spI_house (by simp [h])
  have ld : ∀ L : List D, L = dueL n ds → reprD [.lst L] = some (.v (.str z)) := fun L h => h ▸ hz
  have fin := ld [.int (n : Int), gatesD ds, .int (n : Int), .tup ((colsOf ds).map .str), .str (reprS n ds.length), .bl true] rfl
  rw [tnF_ap, gNm_ap, Ou.bn_ok]
  simp only [List.set_cons_succ, List.set_cons_zero]
  generalize houseD n ds = h at *
  generalize gatesD ds = g at *
  generalize (n : Int) = N at *
  have row := row_right (p0 := some (.v (.int N))) (p1 := some (.v g)) (p2 := p2) (p3 := some (.v (.str z))) (p4 := p4) (p5 := p5) e1 e2 e3 b1 b2 e4 e5 r1 sp
  unfold _law_right_l1
  rw [sIf_ap, tB_ap, xBin_ap, xB_ap, kCons_ap, row]
  simp [fin, eq, -eqD_ap]
def lawShown (a b c d e : Str) : Str := a ++ b ++ c ++ d ++ e
/-- what the law shows and wants: for any lists -/
theorem law_shown {n k : Nat} (hn : n < 1000000000000) (hk : k < 1000000000000) {ds : List D} (hl : ds.length = k) (p2 p3 p4 p5 p6 : Option C) :
    (sAsg 2 (xBin addD (xBin addD (xBin addD (xBin addD (xC (.str "House(")) (xB strD (kCons (xVar 0) kNil))) (xC (.str " halls, "))) (xB strD (kCons (xB lenD (kCons (xVar 1) kNil)) kNil))) (xC (.str " doors)")))) [some (.v (.int (n : Int))), some (.v (.tup ds)), p2, p3, p4, p5, p6] =
      .ok .nx [some (.v (.int (n : Int))), some (.v (.tup ds)), some (.v (.str (reprS n k))), p3, p4, p5, p6] := by
  subst hl
  have l1 := str_num hn
  have l2 := str_num hk
  have z1 := numS_len hn
  have z2 := numS_len hk
  have c1 : (Str.ofString "House(").length = 6 := by decide +kernel
  have c2 : (Str.ofString " halls, ").length = 8 := by decide +kernel
  have c3 : (Str.ofString " doors)").length = 7 := by decide +kernel
  have y2 : (Str.ofString "House(").length + (numS n).length ≤ 16777216 := by omega
  have y3 : (Str.ofString "House(").length + (numS n).length + (Str.ofString " halls, ").length ≤ 16777216 := by omega
  have y4 : (Str.ofString "House(").length + (numS n).length + (Str.ofString " halls, ").length + (numS ds.length).length ≤ 16777216 := by omega
  have y5 : (Str.ofString "House(").length + (numS n).length + (Str.ofString " halls, ").length + (numS ds.length).length + (Str.ofString " doors)").length ≤ 16777216 := by omega
  simp [l1, l2, app_len, y2, y3, y4, y5, reprS, -strD_i]
theorem due_step (H : Hs n ds) {z : Str} (hz : reprD [.lst (dueL n ds)] = some (.v (.str z))) (p3 p5 p6 : Option C) :
    (sAsg 3 (xB reprD (kCons (xLst (aCons (xVar 0) (aCons (xVar 1) (aCons (xVar 0) (aCons (xB tupleD (kCons (xSrtS (xSetX (kCons (xLc (iSeq (xVar 1)) (gNm 4) tTrue _law_right_e1 [4]) kNil))) kNil)) (aCons (xVar 2) (aCons (xC (.bl true)) aNil))))))) kNil))) [some (.v (.int (n : Int))), some (.v (gatesD ds)), some (.v (.str (reprS n ds.length))), p3, none, p5, p6] =
      .ok .nx [some (.v (.int (n : Int))), some (.v (gatesD ds)), some (.v (.str (reprS n ds.length))), some (.v (.str z)), none, p5, p6] := by
  have t : lcL (gNm 4) tTrue _law_right_e1 [4] (ds.map Dr.d) [] [some (.v (.int (n : Int))), some (.v (gatesD ds)), some (.v (.str (reprS n ds.length))), p3, none, p5, p6] = .ok ((ds.map Dr.w).map .str) [some (.v (.int (n : Int))), some (.v (gatesD ds)), some (.v (.str (reprS n ds.length))), p3, none, p5, p6] :=
    tint_lc H.dr.many fun x => by simp [_law_right_e1, Dr.d, L2.atI, L2.ixN]
  have s1 := set_ws (ds := ds) H.dr.many
  have e2 : ((colsL ds).map (Sum.inr : Str → L2.Key)).map kD = (colsL ds).map D.str := by rw [List.map_map]; rfl
  have so : sortOk ((colsL ds).map D.str) = true := sortOk_strs (by rw [sizeLine_num]; have := H.dr.few; omega)
  have st : xSrtS (xSetX (kCons (xLc (iSeq (xVar 1)) (gNm 4) tTrue _law_right_e1 [4]) kNil)) [some (.v (.int (n : Int))), some (.v (gatesD ds)), some (.v (.str (reprS n ds.length))), p3, none, p5, p6] = .ok (.o (.L ((colsOf ds).map .str))) [some (.v (.int (n : Int))), some (.v (gatesD ds)), some (.v (.str (reprS n ds.length))), p3, none, p5, p6] := by
    simp [xLc_ap, t, s1, e2, so, colsOf, -List.map_map]
  have row : xLst (aCons (xVar 0) (aCons (xVar 1) (aCons (xVar 0) (aCons (xB tupleD (kCons (xSrtS (xSetX (kCons (xLc (iSeq (xVar 1)) (gNm 4) tTrue _law_right_e1 [4]) kNil))) kNil)) (aCons (xVar 2) (aCons (xC (.bl true)) aNil)))))) [some (.v (.int (n : Int))), some (.v (gatesD ds)), some (.v (.str (reprS n ds.length))), p3, none, p5, p6] =
      .ok (.o (.L (dueL n ds))) [some (.v (.int (n : Int))), some (.v (gatesD ds)), some (.v (.str (reprS n ds.length))), p3, none, p5, p6] :=
    xLst_ok (aCons_st (by simp) (aCons_st (by simp) (aCons_st (by simp) (aCons_st (by simp [st, -xSrtS_ap]) (aCons_st (by simp) (aCons_st (by simp) rfl)))))) (by show 6 ≤ 16777216; omega)
  rw [sAsg_ap, xB_ap, kCons_ap, row]
  simp [hz]
theorem make_st (H : Hs n ds) {is : List Nat} {dd : List D} {a b : En → Ou (List Ar)} {ρ : En} {as bs : List Ar} (ha : a ρ = .ok as ρ) (hb : b ρ = .ok bs ρ) (hp : pick is (.inr ρ.length :: as ++ bs ++ dArg dd) = [.inr ρ.length, .inl (.int (n : Int)), .inl (gatesD ds)]) :
    xMakD "House" m_House___init__ is dd a b ρ = .ok (.v (houseD n ds)) ρ := by
  rw [xMakD_ap, ha, Ou.bn_ok, hb, Ou.bn_ok, hp, make_ok H]
theorem right_ok (H : Hs n ds) : m__law_right [some (.v (.int (n : Int))), some (.v (gatesD ds))] = .ok (.v (.bl true)) [some (.v (.int (n : Int))), some (.v (gatesD ds))] := by
  obtain ⟨z, hz, ha⟩ := due_ok H
  have hn : n < 1000000000000 := by have := H.le; omega
  have hk : ds.length < 1000000000000 := by have := H.dr.many; omega
  obtain ⟨ρ', f1, q6, rfl⟩ := for_ix (g := gNm 6) (b := _law_right_l1) [houseD n ds, houseD n ds, houseD n ds, houseD n ds] (fun i ρ => ∃ q6, ρ = [some (.v (.int (n : Int))), some (.v (gatesD ds)), some (.v (.str (reprS n ds.length))), some (.v (.str z)), none, some (.v (houseD n ds)), q6])
    (fun i d ρ hd ⟨q6, e⟩ => by
      subst e
      have : d = houseD n ds := by
        have := List.mem_of_getElem? hd
        simpa using this
      subst this
      exact ⟨_, turn_right H hz ha _ _ _ _, _, rfl⟩) (ρ := [some (.v (.int (n : Int))), some (.v (gatesD ds)), some (.v (.str (reprS n ds.length))), some (.v (.str z)), none, some (.v (houseD n ds)), none]) ⟨none, rfl⟩
  have step : b__law_right [some (.v (.int (n : Int))), some (.v (gatesD ds)), none, none, none, none, none] = .ok (.rt (.v (.bl true))) [some (.v (.int (n : Int))), some (.v (gatesD ds)), some (.v (.str (reprS n ds.length))), some (.v (.str z)), none, some (.v (houseD n ds)), q6] := by
    unfold b__law_right
    rw [sq (law_shown hn hk (List.length_map _) none none none none none)]
    unfold _law_right_t4
    rw [sq (due_step H hz none none none)]
    unfold _law_right_t3
    rw [sq (ρ2 := [some (.v (.int (n : Int))), some (.v (gatesD ds)), some (.v (.str (reprS n ds.length))), some (.v (.str z)), none, some (.v (houseD n ds)), none])]
    rotate_left
    · have mk1 := make_st H (is := [0, 1, 2]) (dd := []) (a := gVal (xVar 0) (gVal (xVar 1) gNil)) (b := gNil) (ρ := [some (.v (.int (n : Int))), some (.v (gatesD ds)), some (.v (.str (reprS n ds.length))), some (.v (.str z)), none, none, none]) (as := [.inl (.int (n : Int)), .inl (gatesD ds)]) (bs := []) (by simp) rfl rfl
      rw [sAsg_ap, mk1]
      rfl
    unfold _law_right_t2
    have e1 := fh_halls (n := n) (ds := ds)
    have e2 := fh_doors (n := n) (ds := ds)
    rw [sq (ρ2 := [some (.v (.int (n : Int))), some (.v (gatesD ds)), some (.v (.str (reprS n ds.length))), some (.v (.str z)), none, some (.v (houseD n ds)), q6])]
    rotate_left
    · have mk2 := make_st H (is := [0, 2, 1]) (dd := []) (a := gNil) (b := gVal (xVar 1) (gVal (xVar 0) gNil)) (ρ := [some (.v (.int (n : Int))), some (.v (gatesD ds)), some (.v (.str (reprS n ds.length))), some (.v (.str z)), none, some (.v (houseD n ds)), none]) (as := []) (bs := [.inl (gatesD ds), .inl (.int (n : Int))]) rfl (by simp) rfl
      have mk3 := make_st H (is := [0, 1, 2]) (dd := []) (a := gVal (xUn (fldD "halls") (xVar 5)) gNil) (b := gVal (xUn (fldD "doors") (xVar 5)) gNil) (ρ := [some (.v (.int (n : Int))), some (.v (gatesD ds)), some (.v (.str (reprS n ds.length))), some (.v (.str z)), none, some (.v (houseD n ds)), none]) (as := [.inl (.int (n : Int))]) (bs := [.inl (gatesD ds)]) (by simp [e1]) (by simp [e2]) rfl
      have row := xLst_ok (a := aCons (xVar 5) (aCons (xMakD "House" L02.m_House___init__ [0, 2, 1] [] gNil (gVal (xVar 1) (gVal (xVar 0) gNil))) (aCons (xMakD "House" L02.m_House___init__ [0, 1, 2] [] (gVal (xUn (fldD "halls") (xVar 5)) gNil) (gVal (xUn (fldD "doors") (xVar 5)) gNil)) (aCons (xVar 5) aNil))))
        (ρ := [some (.v (.int (n : Int))), some (.v (gatesD ds)), some (.v (.str (reprS n ds.length))), some (.v (.str z)), none, some (.v (houseD n ds)), none])
        (aCons_st (d := houseD n ds) (by simp) (aCons_st (d := houseD n ds) (by rw [vl_ap, mk2]; rfl) (aCons_st (d := houseD n ds) (by rw [vl_ap, mk3]; rfl) (aCons_st (d := houseD n ds) (by simp) rfl)))) (by show 4 ≤ 16777216; omega)
      rw [sFor_seq (vl_o row) rfl]
      exact f1
    simp [_law_right_t1]
  exact fn_v step rfl rfl rfl
end
end L02
end TxtL02Q

section TxtL02F
set_option Elab.async false
set_option linter.all false
set_option maxRecDepth 100000
/-! L02F: houses by hand. -/
namespace L02
open PySem PySem.Spec Dm

/-! ### checks that the kernel can reckon -/
def reachS (ds : List Dr) (S : List Nat) : List Nat := ds.foldl (fun S x => if x.a ∈ S then addN S x.b else if x.b ∈ S then addN S x.a else S) S
theorem reach_sound {P : Nat → Prop} : ∀ (ds : List Dr) (S : List Nat), (∀ x ∈ ds, P x.a ↔ P x.b) → (∀ h ∈ S, P h) → ∀ h ∈ reachS ds S, P h
  | [], S, _, hS, h, hh => hS h hh
  | x :: ds, S, sc, hS, h, hh => by
    have hx := sc x List.mem_cons_self
    refine reach_sound (P := P) ds (if x.a ∈ S then addN S x.b else if x.b ∈ S then addN S x.a else S) (fun y hy => sc y (List.mem_cons_of_mem _ hy)) (fun y hy => ?_) h hh
    split at hy
    · rename_i ha
      rcases addN_or hy with z | rfl
      · exact hS y z
      · exact hx.mp (hS _ ha)
    · split at hy
      · rename_i hb
        rcases addN_or hy with z | rfl
        · exact hS y z
        · exact hx.mpr (hS _ hb)
      · exact hS y hy
theorem conn_of {n : Nat} {ds : List Dr} (h : (List.range n).all (fun i => decide (i ∈ reachS ds [0])) = true) : Conn n ds := fun S s0 sc i hi =>
  reach_sound ds [0] sc (fun h hh => by simp at hh; subst hh; exact s0) i (of_decide_eq_true (List.all_eq_true.mp h i (List.mem_range.mpr hi)))
def okB (n : Nat) (x : Dr) : Bool := decide (x.a < x.b) && decide (x.b < n) && colS x.w
theorem okB_ok {n : Nat} {x : Dr} (h : okB n x = true) : x.Ok n := by
  unfold okB at h
  simp only [Bool.and_eq_true, decide_eq_true_eq] at h
  exact ⟨h.1.1, h.1.2, h.2⟩
instance (x y : Dr) : Decidable (x.apart y) := by unfold Dr.apart; infer_instance
structure Chk (n : Nat) (ds : List Dr) : Prop where
  pos : 0 < n
  le : n ≤ 64
  ok : ds.all (okB n) = true
  free : ds.Pairwise Dr.apart
  few : (colsL ds).length ≤ 16
  many : ds.length ≤ 1000
  co : (List.range n).all (fun i => decide (i ∈ reachS ds [0])) = true
theorem Chk.sorted {n : Nat} {ds : List Dr} (c : Chk n ds) : Hs n (sortDr ds) :=
  ⟨c.pos, c.le, Doors.of (fun x hx => okB_ok (List.all_eq_true.mp c.ok x hx)) c.free c.few c.many, Conn.perm (sortDr_perm _).symm (conn_of c.co)⟩
theorem Chk.asc {n : Nat} {ds : List Dr} (c : Chk n ds) (a : ds.Pairwise Dr.lt) : Hs n ds :=
  ⟨c.pos, c.le, ⟨fun x hx => okB_ok (List.all_eq_true.mp c.ok x hx), a, c.free, c.few, c.many⟩, conn_of c.co⟩
def ch (k : Nat) : Str := ⟨#[97 + k]⟩
def lineL : List Dr := (List.range 63).map fun i => ⟨i, i + 1, ch (i % 2)⟩
def starL : List Dr := (List.range 16).map fun k => ⟨0, k + 1, ch k⟩
def parL : List Dr := (List.range 16).map fun k => ⟨0, 1, ch k⟩
def bitL (b : Nat) : List Dr := ((List.range 64).filter fun s => s / 2 ^ b % 2 == 0).map fun s => ⟨s, s + 2 ^ b, ch b⟩
def cubeL : List Dr := (List.range 6).flatMap bitL
theorem line_h : Hs 64 lineL := Chk.asc ⟨by decide, by decide, by decide +kernel, by decide +kernel, by decide +kernel, by decide +kernel, by decide +kernel⟩ (by decide +kernel)
theorem star_h : Hs 17 starL := Chk.asc ⟨by decide, by decide, by decide +kernel, by decide +kernel, by decide +kernel, by decide +kernel, by decide +kernel⟩ (by decide +kernel)
theorem par_h : Hs 2 parL := Chk.asc ⟨by decide, by decide, by decide +kernel, by decide +kernel, by decide +kernel, by decide +kernel, by decide +kernel⟩ (by decide +kernel)
theorem cube_h : Hs 64 (sortDr cubeL) := Chk.sorted ⟨by decide, by decide, by decide +kernel, by decide +kernel, by decide +kernel, by decide +kernel, by decide +kernel⟩
theorem one_h : Hs 1 [] := Chk.asc ⟨by decide, by decide, by decide +kernel, by decide +kernel, by decide +kernel, by decide +kernel, by decide +kernel⟩ (by decide +kernel)
theorem a_h : Hs 2 [⟨0, 1, "a"⟩] := Chk.asc ⟨by decide, by decide, by decide +kernel, by decide +kernel, by decide +kernel, by decide +kernel, by decide +kernel⟩ (by decide +kernel)
theorem ab_h : Hs 2 [⟨0, 1, "a"⟩, ⟨0, 1, "b"⟩] := Chk.asc ⟨by decide, by decide, by decide +kernel, by decide +kernel, by decide +kernel, by decide +kernel, by decide +kernel⟩ (by decide +kernel)
theorem abc_h : Hs 2 [⟨0, 1, "a"⟩, ⟨0, 1, "b"⟩, ⟨0, 1, "c"⟩] := Chk.asc ⟨by decide, by decide, by decide +kernel, by decide +kernel, by decide +kernel, by decide +kernel, by decide +kernel⟩ (by decide +kernel)
/-! ### the cube -/
theorem bit_and : ∀ b : Nat, b < 6 → ∀ s : Nat, s < 64 → Builtin.bitAnd ((s : Int) / 2 ^ b) 1 = ((s / 2 ^ b % 2 : Nat) : Int) := by decide +kernel
theorem bit_pow : ∀ b : Nat, b < 6 → (1 : Int) * 2 ^ b = ((2 ^ b : Nat) : Int) := by decide +kernel
theorem abcdef_at : ∀ b : Nat, b < 6 → L2.atI (Str.ofString "abcdef").cps.toList (b : Int) = some (97 + b) := by decide +kernel
theorem abcdef_len : (Str.ofString "abcdef").length = 6 := by decide +kernel
theorem bit_fm (b : Nat) : ∀ l : List Nat, (l.map fun (s : Nat) => D.int (s : Int)).filterMap (fun d => match d with
    | .int s => if s.toNat / 2 ^ b % 2 == 0 then some (Dr.d ⟨s.toNat, s.toNat + 2 ^ b, ch b⟩) else none
    | _ => none) = ((l.filter fun s => s / 2 ^ b % 2 == 0).map fun s => (⟨s, s + 2 ^ b, ch b⟩ : Dr)).map Dr.d
  | [] => rfl
  | s :: l => by
    rw [List.map_cons, List.filterMap_cons, bit_fm b l, List.filter_cons]
    simp only [Int.toNat_natCast]
    cases h : (s / 2 ^ b % 2 == 0) <;> simp
theorem bit_lc {b : Nat} (hb : b < 6) (p0 : Option C) : lcL (gNm 2) _law_cube_q1 _law_cube_e1 [2] (rngD 0 64) [] [p0, some (.v (.int (b : Int))), none] = .ok ((bitL b).map Dr.d) [p0, some (.v (.int (b : Int))), none] := by
  have hr : rngD 0 64 = (List.range 64).map fun (s : Nat) => D.int (s : Int) := rngD_0 64
  rw [hr, lc_map (fun d => match d with
    | .int s => if s.toNat / 2 ^ b % 2 == 0 then some (Dr.d ⟨s.toNat, s.toNat + 2 ^ b, ch b⟩) else none
    | _ => none) _ (fun d hd => ?_) (by simp), bit_fm]
  · rfl
  · obtain ⟨s, hs, rfl⟩ := List.mem_map.mp hd
    have hs := List.mem_range.mp hs
    have e1 := bit_and b hb s hs
    have e2 := bit_pow b hb
    have e3 := abcdef_at b hb
    have sr : shrD (.int (s : Int)) (.int (b : Int)) = some (.v (.int ((s : Int) / 2 ^ b))) := by
      show (if decide (0 ≤ (b : Int)) = true then some (R.v (D.int ((s : Int) / 2 ^ (b : Int).toNat))) else none) = _
      rw [if_pos (by simp), Int.toNat_natCast]
    have sl : shlD (.int 1) (.int (b : Int)) = some (.v (.int ((2 ^ b : Nat) : Int))) := by
      show (if (okN 1000000 (b : Int) && Nat.ble (1 : Int).natAbs 18446744073709551615) = true then some (R.v (D.int ((1 : Int) * 2 ^ (b : Int).toNat))) else none) = _
      rw [if_pos (by rw [okN_of ⟨by omega, by omega⟩]; rfl), Int.toNat_natCast, e2]
    simp only [Int.toNat_natCast]
    generalize 2 ^ b = w at *
    by_cases c : s / w % 2 = 0
    · have c' : ((s / w % 2 : Nat) : Int) = 0 := by omega
      rw [c'] at e1
      simp [_law_cube_q1, _law_cube_e1, sr, sl, e1, e3, abcdef_len, c, Dr.d, ch]
    · have c' : ¬ ((s / w % 2 : Nat) : Int) = 0 := by omega
      generalize ((s / w % 2 : Nat) : Int) = t at *
      simp [_law_cube_q1, _law_cube_e1, sr, sl, e1, c, c']
end L02
end TxtL02F

section TxtL02P
set_option Elab.async false
set_option linter.all false
set_option maxRecDepth 100000
/-! L02P: the law keeps. -/
namespace L02
open PySem PySem.Spec Dm

theorem bitL_len (b : Nat) : (bitL b).length ≤ 64 := by
  unfold bitL
  rw [List.length_map]
  exact Nat.le_trans (List.length_filter_le _ _) (by simp)
theorem cube_ok : m__law_cube [] = .ok (.v (gatesD (sortDr cubeL))) [] := by
  obtain ⟨ρ', f1, q1, q2, rfl, hl⟩ := for_rngI (g := gNm 1) (b := _law_cube_l1) 6 (fun i ρ => ∃ q1 q2, ρ = [some (.L (((List.range i).flatMap bitL).map Dr.d)), q1, q2] ∧ ((List.range i).flatMap bitL).length ≤ i * 64)
    (fun i ρ hi ⟨q1, q2, e, hl⟩ => by
      subst e
      have x := bit_lc hi (some (.L (((List.range i).flatMap bitL).map Dr.d)))
      have es : (List.range (i + 1)).flatMap bitL = (List.range i).flatMap bitL ++ bitL i := by rw [List.range_succ, List.flatMap_append]; simp
      have bl := bitL_len i
      rw [es]
      generalize (List.range i).flatMap bitL = fs at *
      have sz : fs.length + (bitL i).length ≤ 16777216 := by omega
      have rg := xLc_rng (ex := xC (.int 64)) (g := gNm 2) (t := _law_cube_q1) (e := _law_cube_e1) (vs := [2]) (ρ := [some (.L (fs.map Dr.d)), some (.v (.int (i : Int))), q2]) (ρ1 := [some (.L (fs.map Dr.d)), some (.v (.int (i : Int))), q2]) (m := 64) rfl (by decide) x
      refine ⟨_, ?_, some (.v (.int (i : Int))), q2, rfl, by rw [List.length_append]; omega⟩
      simp [_law_cube_l1, rg, sz]) (ρ := [some (.L []), none, none]) ⟨none, none, rfl, by simp⟩
  have hc : (List.range 6).flatMap bitL = cubeL := rfl
  rw [hc] at f1 hl
  have so : sortOk (cubeL.map Dr.d) = true := sortOk_dr (by omega)
  have sd := sortD_dr cubeL
  generalize cubeL = cs at *
  have step : b__law_cube [none, none, none] = .ok (.rt (.v (gatesD (sortDr cs)))) [some (.L (cs.map Dr.d)), q1, q2] := by
    unfold b__law_cube
    rw [sq (ρ2 := [some (.L []), none, none])]
    rotate_left
    · simp
    unfold _law_cube_t2
    rw [sq (ρ2 := [some (.L (cs.map Dr.d)), q1, q2])]
    rotate_left
    · rw [sFor_rng (m := 6) rfl (by decide)]
      exact f1
    simp [_law_cube_t1, so, sd]
  exact fn_v step rfl rfl rfl
/-! ### the hand-made ones -/
def prD (p : Nat × List Dr) : D := .tup [.int (p.1 : Int), gatesD p.2]
theorem ab_at : ∀ i : Nat, i < 2 → L2.atI (Str.ofString "ab").cps.toList (i : Int) = some (97 + i) := by decide +kernel
theorem ap_at : ∀ i : Nat, i < 16 → L2.atI (Str.ofString "abcdefghijklmnop").cps.toList (i : Int) = some (97 + i) := by decide +kernel
theorem ab_len : (Str.ofString "ab").length = 2 := by decide +kernel
theorem ap_len : (Str.ofString "abcdefghijklmnop").length = 16 := by decide +kernel
theorem ap_cps : (Str.ofString "abcdefghijklmnop").cps.toList = (List.range 16).map (97 + ·) := by decide +kernel
theorem line_lc (p0 p2 p3 p4 p5 p6 p7 : Option C) : lcL (gNm 1) tTrue _law_fixed_right_e1 [1] (rngD 0 63) [] [p0, none, p2, p3, p4, p5, p6, p7] = .ok (lineL.map Dr.d) [p0, none, p2, p3, p4, p5, p6, p7] := by
  unfold lineL
  rw [List.map_map]
  refine lc_rng 63 _ (by decide) fun i hi => ?_
  have a := ab_at (i % 2) (Nat.mod_lt _ (by decide))
  rw [show (((i % 2 : Nat)) : Int) = (i : Int) % 2 by omega] at a
  simp [_law_fixed_right_e1, a, ab_len, Dr.d, ch]
theorem star_lc (p0 p1 p2 p4 p5 p6 p7 : Option C) : lcL (gNm 3) tTrue _law_fixed_right_e2 [3] (rngD 0 16) [] [p0, p1, p2, none, p4, p5, p6, p7] = .ok (starL.map Dr.d) [p0, p1, p2, none, p4, p5, p6, p7] := by
  unfold starL
  rw [List.map_map]
  refine lc_rng 16 _ (by decide) fun i hi => ?_
  have a := ap_at i hi
  simp [_law_fixed_right_e2, a, ap_len, Dr.d, ch]
theorem par_lc (p0 p1 p2 p3 p4 p6 p7 : Option C) : lcL (gNm 5) tTrue _law_fixed_right_e3 [5] ((Str.ofString "abcdefghijklmnop").cps.toList.map fun c => .str ⟨#[c]⟩) [] [p0, p1, p2, p3, p4, none, p6, p7] = .ok (parL.map Dr.d) [p0, p1, p2, p3, p4, none, p6, p7] := by
  rw [ap_cps, lc_map (fun d => some (.tup [.int 0, .int 1, d])) _ (fun d hd => ?_) (by simp)]
  · rfl
  · obtain ⟨s, hs, rfl⟩ := List.mem_map.mp hd
    simp [_law_fixed_right_e3]
theorem par_tup (p0 p1 p2 p3 p4 p6 p7 : Option C) : vl (xB tupleD (kCons (xLc (iSeq (xC (.str "abcdefghijklmnop"))) (gNm 5) tTrue _law_fixed_right_e3 [5]) kNil)) [p0, p1, p2, p3, p4, none, p6, p7] = .ok (gatesD parL) [p0, p1, p2, p3, p4, none, p6, p7] := by
  have l3 := xLc_seq (e := xC (.str "abcdefghijklmnop")) (g := gNm 5) (t := tTrue) (x := _law_fixed_right_e3) (vs := [5]) (ρ := [p0, p1, p2, p3, p4, none, p6, p7]) (ρ1 := [p0, p1, p2, p3, p4, none, p6, p7]) rfl rfl (par_lc p0 p1 p2 p3 p4 p6 p7)
  simp [l3]
theorem add_asg {x : En → Ou R} {a b : List D} {p0 p1 p2 p3 p5 p6 p7 : Option C} (h : x [p0, p1, p2, p3, some (.L a), p5, p6, p7] = .ok (.o (.L b)) [p0, p1, p2, p3, some (.L a), p5, p6, p7]) (hz : a.length + b.length ≤ 16777216) :
    sAsg 4 (xBin addD (xVar 4) x) [p0, p1, p2, p3, some (.L a), p5, p6, p7] = .ok .nx [p0, p1, p2, p3, some (.L (a ++ b)), p5, p6, p7] := by
  simp [h, hz]
def PL : List (Nat × List Dr) := [(1, []), (2, [⟨0, 1, "a"⟩]), (2, [⟨0, 1, "a"⟩, ⟨0, 1, "b"⟩]), (64, lineL), (2, [⟨0, 1, "a"⟩, ⟨0, 1, "b"⟩, ⟨0, 1, "c"⟩]), (64, sortDr cubeL), (17, starL), (2, parL)]
theorem PL_h : ∀ p ∈ PL, Hs p.1 p.2 := by
  intro p hp
  simp only [PL, List.mem_cons, List.not_mem_nil, or_false] at hp
  rcases hp with rfl | rfl | rfl | rfl | rfl | rfl | rfl | rfl
  · exact one_h
  · exact a_h
  · exact ab_h
  · exact line_h
  · exact abc_h
  · exact cube_h
  · exact star_h
  · exact par_h
theorem tint_nil : colsOf [] = [] := rfl
theorem last_ok (p0 p1 p2 p3 p4 p5 p6 p7 : Option C) : _law_fixed_right_t1 [p0, p1, p2, p3, p4, p5, p6, p7] = .ok (.rt (.v (.bl true))) [p0, p1, p2, p3, p4, p5, p6, p7] := by
  have mk1 := make_st one_h (is := [0, 1, 2]) (dd := [.tup []]) (a := gVal (xC (.int 1)) gNil) (b := gNil) (ρ := [p0, p1, p2, p3, p4, p5, p6, p7]) (as := [.inl (.int ((1 : Nat) : Int))]) (bs := []) (by simp) rfl rfl
  have mk2 := make_st one_h (is := [0, 1, 2]) (dd := [.tup []]) (a := gNil) (b := gVal (xC (.int 1)) gNil) (ρ := [p0, p1, p2, p3, p4, p5, p6, p7]) (as := []) (bs := [.inl (.int ((1 : Nat) : Int))]) rfl (by simp) rfl
  have e2 := fh_doors (n := 1) (ds := [])
  have e3 := len_house one_h
  have e4 := colours_house one_h
  have r1 : ∀ ρ, rcvV "House" "colours" (.v (houseD 1 [])) ρ = some (.inl (houseD 1 []), ρ) := fun ρ => rcv_house (by simp)
  have sp : ∀ {m : Fm} {f : R → En → Ou R} {eo : En → Ou R} {ρ ρ1 : En}, vl eo ρ = .ok (houseD 1 []) ρ1 → xSpI "House" m f eo ρ = (calM m [.inl (houseD 1 [])] ρ1).bn f := fun {m f eo ρ ρ1} h => spI_house h
  unfold _law_fixed_right_t1
  generalize houseD 1 [] = h at *
  generalize m_House___init__ = mI at *
  generalize m_House_colours = mC at *
  generalize m_House___len__ = mL at *
  generalize xMakD "House" mI [0, 1, 2] [.tup []] (gVal (xC (.int 1)) gNil) gNil = x1 at *
  generalize xMakD "House" mI [0, 1, 2] [.tup []] gNil (gVal (xC (.int 1)) gNil) = x2 at *
  have row := xLst_ok (a := aCons (xUn (fldD "doors") x1) (aCons (xUn (fldD "doors") x2) (aCons (xMthV "House" "colours" mC [0] [] x1 gNil gNil) (aCons (xSpI "House" mL lenB x1) aNil)))) (ρ := [p0, p1, p2, p3, p4, p5, p6, p7]) (l := [.tup [], .tup [], .tup [], .int 1])
    (aCons_st (by simp [mk1, e2]) (aCons_st (by simp [mk2, e2]) (aCons_st (by simp [mk1, xMthV_ap, r1, e4, tint_nil]) (aCons_st (by rw [vl_ap, sp (vl_v mk1)]; simp [e3]) rfl)))) (by show 4 ≤ 16777216; omega)
  have row2 := xLst_ok (a := aCons (xTup aNil) (aCons (xTup aNil) (aCons (xTup aNil) (aCons (xC (.int 1)) aNil)))) (ρ := [p0, p1, p2, p3, p4, p5, p6, p7]) (l := [.tup [], .tup [], .tup [], .int 1])
    (aCons_st (by simp) (aCons_st (by simp) (aCons_st (by simp) (aCons_st (by simp) rfl)))) (by show 4 ≤ 16777216; omega)
  have s0 : Shows (.tuple []) 100 3 := (Shows.tuple (ShowsAll.nil (k := 0))).mono (by omega) (by omega)
  have s1 : Shows (.int 1) 100 3 := (Shows.int (i := 1) (by decide)).mono (by omega) (by omega)
  have S := Shows.list (ShowsAll.cons s0 (ShowsAll.cons s0 (ShowsAll.cons s0 (ShowsAll.cons s1 ShowsAll.nil))))
  have re := Shows.repr (d := .lst [.tup [], .tup [], .tup [], .int 1]) (by simp) S rfl (by rw [sizeLine_num]; omega) (by omega)
  have eq := eq_same (neg := false) S.asc
  rw [sRet_ap, xBin_ap, xB_ap, kCons_ap, row, Ou.bn_ok, kNil_ap, Ou.bn_ok, Ou.bn_ok]
  simp only [pks_cons, pks_nil, pk_o, toD_L, re, Ou.bn_ok]
  rw [xB_ap, kCons_ap, row2, Ou.bn_ok, kNil_ap, Ou.bn_ok, Ou.bn_ok]
  simp only [pks_cons, pks_nil, pk_o, toD_L, re, Ou.bn_ok, lk2_ap, pk_v, eq]
  rfl
theorem fixed_ok : m__law_fixed_right [] = .ok (.v (.bl true)) [] := by
  have c := cube_ok
  obtain ⟨ρ', f1, q6, q7, rfl⟩ := for_ix (g := gTp 2 (gsCons (gNm 6) (gsCons (gNm 7) gsNil))) (b := _law_fixed_right_l1) (PL.map prD) (fun i ρ => ∃ q6 q7, ρ = [some (.v (gatesD lineL)), none, some (.v (gatesD starL)), none, some (.v (.lst (PL.map prD))), none, q6, q7])
    (fun i d ρ hd ⟨q6, q7, e⟩ => by
      subst e
      rw [List.getElem?_map] at hd
      obtain ⟨p, hp, rfl⟩ := Option.map_eq_some_iff.mp hd
      have H := PL_h p (List.mem_of_getElem? hp)
      have r := right_ok H
      refine ⟨_, ?_, some (.v (.int (p.1 : Int))), some (.v (gatesD p.2)), rfl⟩
      generalize PL.map prD = pl at *
      generalize gatesD lineL = g1 at *
      generalize gatesD starL = g2 at *
      unfold prD _law_fixed_right_l1
      generalize gatesD p.2 = g at *
      generalize m__law_right = m at *
      simp [r]) (ρ := [some (.v (gatesD lineL)), none, some (.v (gatesD starL)), none, some (.v (.lst (PL.map prD))), none, none, none]) ⟨none, none, rfl⟩
  have l1 := xLc_rng (ex := xC (.int 63)) (g := gNm 1) (t := tTrue) (e := _law_fixed_right_e1) (vs := [1]) (ρ := [none, none, none, none, none, none, none, none]) (ρ1 := [none, none, none, none, none, none, none, none]) (m := 63) rfl (by decide) (line_lc none none none none none none none)
  have l2 := xLc_rng (ex := xC (.int 16)) (g := gNm 3) (t := tTrue) (e := _law_fixed_right_e2) (vs := [3]) (ρ := [some (.v (gatesD lineL)), none, none, none, none, none, none, none]) (ρ1 := [some (.v (gatesD lineL)), none, none, none, none, none, none, none]) (m := 16) rfl (by decide) (star_lc (some (.v (gatesD lineL))) none none none none none none)
  have step : b__law_fixed_right [none, none, none, none, none, none, none, none] = .ok (.rt (.v (.bl true))) [some (.v (gatesD lineL)), none, some (.v (gatesD starL)), none, some (.v (.lst (PL.map prD))), none, q6, q7] := by
    unfold b__law_fixed_right
    rw [sq (ρ2 := [some (.v (gatesD lineL)), none, none, none, none, none, none, none])]
    rotate_left
    · simp [l1]
    unfold _law_fixed_right_t6
    rw [sq (ρ2 := [some (.v (gatesD lineL)), none, some (.v (gatesD starL)), none, none, none, none, none])]
    rotate_left
    · simp [l2]
    unfold _law_fixed_right_t5
    rw [sq (ρ2 := [some (.v (gatesD lineL)), none, some (.v (gatesD starL)), none, some (.L ((PL.take 4).map prD)), none, none, none])]
    rotate_left
    · simp [PL, prD, Dr.d]
    unfold _law_fixed_right_t4
    rw [sq (ρ2 := [some (.v (gatesD lineL)), none, some (.v (gatesD starL)), none, some (.L ((PL.take 5).map prD)), none, none, none])]
    rotate_left
    · simp [PL, prD, Dr.d]
    unfold _law_fixed_right_t3
    rw [sq (ρ2 := [some (.v (gatesD lineL)), none, some (.v (gatesD starL)), none, some (.L (PL.map prD)), none, none, none])]
    rotate_left
    · have row := xLst_ok (a := aCons (xTup (aCons (xC (.int 64)) (aCons (xCal L02.m__law_cube gNil) aNil))) (aCons (xTup (aCons (xC (.int 17)) (aCons (xVar 2) aNil))) (aCons (xTup (aCons (xC (.int 2)) (aCons (xB tupleD (kCons (xLc (iSeq (xC (.str "abcdefghijklmnop"))) (gNm 5) tTrue _law_fixed_right_e3 [5]) kNil)) aNil))) aNil)))
        (ρ := [some (.v (gatesD lineL)), none, some (.v (gatesD starL)), none, some (.L ((PL.take 5).map prD)), none, none, none]) (l := [prD (64, sortDr cubeL), prD (17, starL), prD (2, parL)])
        (aCons_st (vl_v (xTup_ok (aCons_st rfl (aCons_st (vl_v (cal_v (ds := []) rfl c)) rfl)) (by show 2 ≤ 16777216; omega)))
          (aCons_st (vl_v (xTup_ok (aCons_st rfl (aCons_st rfl rfl)) (by show 2 ≤ 16777216; omega)))
            (aCons_st (vl_v (xTup_ok (aCons_st rfl (aCons_st (par_tup _ _ _ _ _ _ _) rfl)) (by show 2 ≤ 16777216; omega))) rfl))) (by show 3 ≤ 16777216; omega)
      exact add_asg row (by decide)
    unfold _law_fixed_right_t2
    rw [sq (ρ2 := [some (.v (gatesD lineL)), none, some (.v (gatesD starL)), none, some (.v (.lst (PL.map prD))), none, q6, q7])]
    rotate_left
    · rw [sFor_seq (d := .lst (PL.map prD)) (ρ1 := [some (.v (gatesD lineL)), none, some (.v (gatesD starL)), none, some (.v (.lst (PL.map prD))), none, none, none]) rfl rfl]
      exact f1
    exact last_ok _ _ _ _ _ _ _ _
  exact fn_v step rfl rfl rfl
/-! ### the law -/
theorem keeps : Dm.Keeps m_law := by
  intro ns hns
  have fx := fixed_ok
  have hm : ∃ m : Nat, m ≤ 6 ∧ (if (if 6 < ((ns.length : Nat) : Int) then 6 else ((ns.length : Nat) : Int)) > 2 then (if 6 < ((ns.length : Nat) : Int) then 6 else ((ns.length : Nat) : Int)) else 2) = (m : Int) := by
    by_cases h6 : 6 < ((ns.length : Nat) : Int)
    · exact ⟨6, by omega, by rw [if_pos h6]; rfl⟩
    · by_cases h2 : ((ns.length : Nat) : Int) > 2
      · exact ⟨ns.length, by omega, by rw [if_neg h6, if_pos h2]⟩
      · exact ⟨2, by omega, by rw [if_neg h6, if_neg h2]; rfl⟩
  obtain ⟨m, hm6, em⟩ := hm
  obtain ⟨ρ', f1, q1, q2, q3, q4, q5, rfl⟩ := for_rngI (g := gNm 1) (b := law_l2) m (fun i ρ => ∃ q1 q2 q3 q4 q5, ρ = [some (.v (.scr ns)), q1, q2, q3, q4, q5])
    (fun i ρ hi ⟨q1, q2, q3, q4, q5, e⟩ => by
      subst e
      obtain ⟨p, e1⟩ := purse_ok ns i (by omega)
      obtain ⟨ρ', f1, k, r3, r4, r5, rfl⟩ := for_rngI (g := gNm 3) (b := law_l1) 2 (fun j ρ => ∃ (k : Pu) (r3 r4 r5 : Option C), ρ = [some (.v (.scr ns)), some (.v (.int (i : Int))), some k.c, r3, r4, r5])
        (fun j ρ hj ⟨k, r3, r4, r5, e⟩ => by
          subst e
          obtain ⟨n, ds, k', H, e2⟩ := drawn_ok k
          have r := right_ok H
          refine ⟨_, ?_, k', some (.v (.int (j : Int))), some (.v (.int (n : Int))), some (.v (gatesD ds)), rfl⟩
          unfold law_l1 law_t1
          generalize gatesD ds = g at *
          generalize m__law_right = mr at *
          generalize m__law_drawn = md at *
          simp [e2, r, sSeq_ap]) (ρ := [some (.v (.scr ns)), some (.v (.int (i : Int))), some p.c, q3, q4, q5]) ⟨p, q3, q4, q5, rfl⟩
      refine ⟨_, ?_, some (.v (.int (i : Int))), some k.c, r3, r4, r5, rfl⟩
      rw [tnF_ap, gNm_ap, Ou.bn_ok]
      unfold law_l2
      rw [sq (ρ2 := [some (.v (.scr ns)), some (.v (.int (i : Int))), some p.c, q3, q4, q5])]
      rotate_left
      · generalize m__law_purse = mp at *
        simp [e1]
      unfold law_t2
      rw [sFor_rng (m := 2) rfl (by decide)]
      exact f1) (ρ := [some (.v (.scr ns)), none, none, none, none, none]) ⟨none, none, none, none, none, rfl⟩
  have step : b_law [some (.v (.scr ns)), none, none, none, none, none] = .ok (.rt (.v (.bl true))) [some (.v (.scr ns)), q1, q2, q3, q4, q5] := by
    unfold b_law
    rw [sq (ρ2 := [some (.v (.scr ns)), none, none, none, none, none])]
    rotate_left
    · exact guard_ok (ds := []) rfl fx
    unfold law_t4
    rw [sq (ρ2 := [some (.v (.scr ns)), q1, q2, q3, q4, q5])]
    rotate_left
    · rw [sFor_rng (m := m) (ρ1 := [some (.v (.scr ns)), none, none, none, none, none]) (by simp [em]) (by omega)]
      exact f1
    simp [law_t3]
  exact ⟨_, fn_v step rfl rfl rfl⟩
end L02
end TxtL02P

section TxtL02E
set_option Elab.async false
open PySem PySem.W PyProof.Rows
set_option maxRecDepth 100000 in
set_option maxHeartbeats 0 in
theorem PySem.Challenge.cw_doorlots_k02_house_values_holds : PySem.Challenge.rw_doorlots_k02_house_values.Holds := by
  w_on; o_law; k_head; (case hw => w_witness2)
  k_fill
  refine Dm.walk_ofG (l := PySem.Challenge.rw_doorlots_k02_house_values) (k := 8) (x := "_law_script") rfl rfl ⟨rfl, by decide, by decide⟩ (fun w h Y => PySem.W.kIn_of Y) ?F
  case F =>
    intro w mg fa h KX G hmg
    refine' L02W.all_mk KX G hmg L02.keeps ?z_all ?z_bool ?z_enumerate ?z_int ?z_isinstance ?z_len ?z_max ?z_min ?z_range ?z_repr ?z_set ?z_sorted ?z_str ?z_tuple ?c_LETTERS ?c_MOST_COLOURS ?c_MOST_HALLS ?a_House ?pg_House ?hd_House ?po_House ?sa_House ?na_House_doors ?na_House_ends ?na_House_halls ?NB_House ?mk_House ?kc_House ?a_InvalidInput ?rd_InvalidInput ?ga_InvalidInput ?at_InvalidInput ?a_StateError ?rd_StateError ?ga_StateError ?at_StateError ?a_InvalidHalls ?lx_InvalidHalls ?sa_InvalidHalls ?ex_InvalidHalls ?ty_InvalidHalls ?kc_InvalidHalls ?ic_InvalidHalls ?tf_InvalidHalls ?no_InvalidHalls ?l_InvalidHalls ?k_InvalidHalls ?p_InvalidHalls ?a_InvalidDoors ?lx_InvalidDoors ?sa_InvalidDoors ?ex_InvalidDoors ?ty_InvalidDoors ?kc_InvalidDoors ?ic_InvalidDoors ?tf_InvalidDoors ?no_InvalidDoors ?l_InvalidDoors ?k_InvalidDoors ?p_InvalidDoors ?a_Unreachable ?lx_Unreachable ?sa_Unreachable ?ex_Unreachable ?ty_Unreachable ?kc_Unreachable ?ic_Unreachable ?tf_Unreachable ?no_Unreachable ?l_Unreachable ?k_Unreachable ?p_Unreachable ?i_hn ?i_ht ?i_ha_House ?i_hm_House ?i_1_House_NoneType ?i_1_House_bool ?i_1_House_int ?i_1_House_str ?i_1_House_tuple ?i_1_House_list ?i_1_House_dict ?i_2_House_bool ?i_2_House_int ?i_2_House_str ?i_2_House_tuple ?i_2_House_list ?i_2_House_dict ?i_3_House_House ?a__law_cube ?l__law_cube ?k__law_cube ?p__law_cube ?a_is_integer ?l_is_integer ?k_is_integer ?p_is_integer ?a_is_colour ?l_is_colour ?k_is_colour ?p_is_colour ?a_is_door ?l_is_door ?k_is_door ?p_is_door ?a_ends_of ?l_ends_of ?k_ends_of ?p_ends_of ?a_reached_through ?l_reached_through ?k_reached_through ?p_reached_through ?i_House_colours ?fn_House_colours ?l_House_colours ?k_House_colours ?p_House_colours ?i_House___init__ ?fn_House___init__ ?l_House___init__ ?k_House___init__ ?p_House___init__ ?t_House___init__ ?te_House___init___0 ?i_House___len__ ?fn_House___len__ ?l_House___len__ ?k_House___len__ ?p_House___len__ ?i_House___repr__ ?fn_House___repr__ ?l_House___repr__ ?k_House___repr__ ?p_House___repr__ ?a__law_right ?l__law_right ?k__law_right ?p__law_right ?a__law_fixed_right ?l__law_fixed_right ?k__law_fixed_right ?p__law_fixed_right ?a__law_purse ?l__law_purse ?k__law_purse ?p__law_purse ?a__law_draw ?l__law_draw ?k__law_draw ?p__law_draw ?a__law_words ?l__law_words ?k__law_words ?p__law_words ?a__law_grown ?l__law_grown ?k__law_grown ?p__law_grown ?a__law_doors ?l__law_doors ?k__law_doors ?p__law_doors ?a__law_drawn ?l__law_drawn ?k__law_drawn ?p__law_drawn ?a_law ?l_law ?k_law ?p_law
    (case z_all => k_is)
    (case z_bool => k_is)
    (case z_enumerate => k_is)
    (case z_int => k_is)
    (case z_isinstance => k_is)
    (case z_len => k_is)
    (case z_max => k_is)
    (case z_min => k_is)
    (case z_range => k_is)
    (case z_repr => k_is)
    (case z_set => k_is)
    (case z_sorted => k_is)
    (case z_str => k_is)
    (case z_tuple => k_is)
    (case c_LETTERS => k_is)
    (case c_MOST_COLOURS => k_is)
    (case c_MOST_HALLS => k_is)
    (case a_House => k_is)
    (case pg_House => k_is)
    (case hd_House => k_is)
    (case po_House => k_is)
    (case sa_House => k_is)
    (case na_House_doors => k_is)
    (case na_House_ends => k_is)
    (case na_House_halls => k_is)
    (case NB_House => k_is)
    (case mk_House => k_is)
    (case kc_House => k_is)
    (case a_InvalidInput => k_is)
    (case rd_InvalidInput => k_is)
    (case ga_InvalidInput => k_is)
    (case at_InvalidInput => k_is)
    (case a_StateError => k_is)
    (case rd_StateError => k_is)
    (case ga_StateError => k_is)
    (case at_StateError => k_is)
    (case a_InvalidHalls => k_is)
    (case lx_InvalidHalls => k_is)
    (case sa_InvalidHalls => k_is)
    (case ex_InvalidHalls => k_is)
    (case ty_InvalidHalls => k_is)
    (case kc_InvalidHalls => k_is)
    (case ic_InvalidHalls => k_is)
    (case tf_InvalidHalls => k_is)
    (case no_InvalidHalls => k_is)
    (case l_InvalidHalls => k_is)
    (case k_InvalidHalls => k_is)
    (case p_InvalidHalls => k_is)
    (case a_InvalidDoors => k_is)
    (case lx_InvalidDoors => k_is)
    (case sa_InvalidDoors => k_is)
    (case ex_InvalidDoors => k_is)
    (case ty_InvalidDoors => k_is)
    (case kc_InvalidDoors => k_is)
    (case ic_InvalidDoors => k_is)
    (case tf_InvalidDoors => k_is)
    (case no_InvalidDoors => k_is)
    (case l_InvalidDoors => k_is)
    (case k_InvalidDoors => k_is)
    (case p_InvalidDoors => k_is)
    (case a_Unreachable => k_is)
    (case lx_Unreachable => k_is)
    (case sa_Unreachable => k_is)
    (case ex_Unreachable => k_is)
    (case ty_Unreachable => k_is)
    (case kc_Unreachable => k_is)
    (case ic_Unreachable => k_is)
    (case tf_Unreachable => k_is)
    (case no_Unreachable => k_is)
    (case l_Unreachable => k_is)
    (case k_Unreachable => k_is)
    (case p_Unreachable => k_is)
    (case i_hn => k_is)
    (case i_ht => k_is)
    (case i_ha_House => k_is)
    (case i_hm_House => k_is)
    (case i_1_House_NoneType => kit_is)
    (case i_1_House_bool => kit_is)
    (case i_1_House_int => kit_is)
    (case i_1_House_str => kit_is)
    (case i_1_House_tuple => kit_is)
    (case i_1_House_list => kit_is)
    (case i_1_House_dict => kit_is)
    (case i_2_House_bool => kit_is)
    (case i_2_House_int => kit_is)
    (case i_2_House_str => kit_is)
    (case i_2_House_tuple => kit_is)
    (case i_2_House_list => kit_is)
    (case i_2_House_dict => kit_is)
    (case i_3_House_House => kit_is)
    (case a__law_cube => k_is)
    (case l__law_cube => k_is)
    (case k__law_cube => k_is)
    (case p__law_cube => k_is)
    (case a_is_integer => k_is)
    (case l_is_integer => k_is)
    (case k_is_integer => k_is)
    (case p_is_integer => k_is)
    (case a_is_colour => k_is)
    (case l_is_colour => k_is)
    (case k_is_colour => k_is)
    (case p_is_colour => k_is)
    (case a_is_door => k_is)
    (case l_is_door => k_is)
    (case k_is_door => k_is)
    (case p_is_door => k_is)
    (case a_ends_of => k_is)
    (case l_ends_of => k_is)
    (case k_ends_of => k_is)
    (case p_ends_of => k_is)
    (case a_reached_through => k_is)
    (case l_reached_through => k_is)
    (case k_reached_through => k_is)
    (case p_reached_through => k_is)
    (case i_House_colours => k_is)
    (case fn_House_colours => k_is)
    (case l_House_colours => k_is)
    (case k_House_colours => k_is)
    (case p_House_colours => k_is)
    (case i_House___init__ => k_is)
    (case fn_House___init__ => k_is)
    (case l_House___init__ => k_is)
    (case k_House___init__ => k_is)
    (case p_House___init__ => k_is)
    (case t_House___init__ => k_is)
    (case te_House___init___0 => k_is)
    (case i_House___len__ => k_is)
    (case fn_House___len__ => k_is)
    (case l_House___len__ => k_is)
    (case k_House___len__ => k_is)
    (case p_House___len__ => k_is)
    (case i_House___repr__ => k_is)
    (case fn_House___repr__ => k_is)
    (case l_House___repr__ => k_is)
    (case k_House___repr__ => k_is)
    (case p_House___repr__ => k_is)
    (case a__law_right => k_is)
    (case l__law_right => k_is)
    (case k__law_right => k_is)
    (case p__law_right => k_is)
    (case a__law_fixed_right => k_is)
    (case l__law_fixed_right => k_is)
    (case k__law_fixed_right => k_is)
    (case p__law_fixed_right => k_is)
    (case a__law_purse => k_is)
    (case l__law_purse => k_is)
    (case k__law_purse => k_is)
    (case p__law_purse => k_is)
    (case a__law_draw => k_is)
    (case l__law_draw => k_is)
    (case k__law_draw => k_is)
    (case p__law_draw => k_is)
    (case a__law_words => k_is)
    (case l__law_words => k_is)
    (case k__law_words => k_is)
    (case p__law_words => k_is)
    (case a__law_grown => k_is)
    (case l__law_grown => k_is)
    (case k__law_grown => k_is)
    (case p__law_grown => k_is)
    (case a__law_doors => k_is)
    (case l__law_doors => k_is)
    (case k__law_doors => k_is)
    (case p__law_doors => k_is)
    (case a__law_drawn => k_is)
    (case l__law_drawn => k_is)
    (case k__law_drawn => k_is)
    (case p__law_drawn => k_is)
    (case a_law => k_is)
    (case l_law => k_is)
    (case k_law => k_is)
    (case p_law => k_is)
end TxtL02E
