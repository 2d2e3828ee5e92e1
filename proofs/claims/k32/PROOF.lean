import PyProof.Rows.All
import Wide.All
import OpenK.AllK
import Wide.FinOn
import HandS.Base
import HandS.Call
import HandS.List
import HandS.Comp
import HandS.Exc
import HandS.ExcOwn
import HandS.Text
import HandS.HeadHook1
import HandS.HeadHook2
import HandS.HeadEnd
import HandS.Head0
import HandS.Head1
import HandS.Head2
import HandS.Style
import HandS.Flow
import HandS.WideBits
import HandS.Wide
import HandS.TupAny
import HandS.Deep
import HandS.Zip
import HandS.Rev
import HandS.Conv
import HandS.Keys
import HandS.SortKw
import HandS.TupMul
import KE.DataMinMax
import HandS.Strs
import HandS.SetFor
import HandS.ReCall
import HandS.IsInst
import HandS.ExcIs
import HandS.Zip0
import HandS.TryOnly
import PyProof.ExcBaseAll.ValueError
import HandS.Dict
import HandS.GenList
import KE.KDictZip
import KE.KTurns
import HandS.NoneIn
import HandS.TupSets
import PyProof.Rows.ChunkLeaf
import HandS.Defaults
import HandS.Ends
import HandS.Words
import PySem.Challenge.RW_bothwire_k32_gates_told
set_option Elab.async false
set_option maxRecDepth 100000
set_option linter.all false
section
set_option Elab.async false
set_option maxRecDepth 100000
/-! The data layer: values, what stands for them -/
namespace Dv
open PySem PySem.Spec PyProof.Rows L2

inductive D where
  | non | bl (b : Bool) | int (i : Int) | str (x : Str)
  | tup (ds : List D) | lst (ds : List D) | scr (ds : List D) | tpk (ds : List D)
  | ins (c : Nat) (ds : List D)
  | exc (c : Nat) (ds : List D)
  | dct (ks : List L2.Key) (ds : List D)

structure Tb where
  K : PySem.W.Frag
  ca : Nat → Addr
  fl : Nat → List Str
  ea : Nat → Addr
  xf : Nat → List Str
  nc : Nat
  ne : Nat

/-- an exception object that stands by itself -/
def exH (cls : Value) (d : Option Addr) (a : Addr) : HO := .ext fun h => ∃ (oe : Obj) (vs : Array Value), h.get? a = some oe ∧ Zc cls d oe ∧ oe.data = .fields vs
mutual
def Rep (T : Tb) (F : Hp) : D → V → Prop
  | .non, v => v = .non
  | .bl b, v => v = .bl b
  | .int i, v => v = .int i
  | .str x, v => v = .str x
  | .tup ds, v => ∃ a vs, v = .ref a ∧ SqT T.K F a vs ∧ Reps T F ds vs
  | .lst ds, v => ∃ a vs, v = .ref a ∧ F a = some (.lst vs) ∧ Reps T F ds vs
  | .scr ds, v => ∃ a vs, v = .ref a ∧ SqL T.K F a vs ∧ Reps T F ds vs
  | .tpk ds, v => ∃ a vs ob, v = .ref a ∧ F a = some (.frz ob (.tup vs)) ∧ Reps T F ds vs ∧ ob.dict = none
  | .ins c ds, v => ∃ a dx vs, v = .ref a ∧ F a = some (.ins (T.ca c) dx ((T.fl c).zip vs)) ∧ Reps T F ds vs ∧ ds.length = (T.fl c).length ∧ c < T.nc
  | .exc c ds, v => ∃ a d vs, v = .ref a ∧ F a = some (exH (.ref (T.ea c)) d a) ∧ ((ds = [] ∧ d = none) ∨ (ds ≠ [] ∧ ∃ dd, d = some dd ∧ F dd = some (.xd ((T.xf c).zip vs)))) ∧ Reps T F ds vs ∧ c < T.ne
  | .dct ks ds, v => ∃ a vs, v = .ref a ∧ F a = some (.dK (ks.zip vs)) ∧ Reps T F ds vs ∧ ks.length = ds.length
def Reps (T : Tb) (F : Hp) : List D → List V → Prop
  | [], vs => vs = []
  | d :: ds, vs => ∃ v r, vs = v :: r ∧ Rep T F d v ∧ Reps T F ds r
end
def Le (F H : Hp) : Prop := ∀ a o, F a = some o → H a = some o
theorem Le.t {F H : Hp} {K : PySem.W.Frag} {a : Addr} {vs : List V} (h : Le F H) (x : SqT K F a vs) : SqT K H a vs := by
  rcases x with (x | ⟨o, x⟩) | x
  · exact .inl (.inl (h _ _ x))
  · exact .inl (.inr ⟨o, h _ _ x⟩)
  · exact .inr x
theorem Le.l {F H : Hp} {K : PySem.W.Frag} {a : Addr} {vs : List V} (h : Le F H) (x : SqL K F a vs) : SqL K H a vs := by
  rcases x with (x | ⟨o, x⟩) | x
  · exact .inl (.inl (h _ _ x))
  · exact .inl (.inr ⟨o, h _ _ x⟩)
  · exact .inr x
mutual
theorem Rep.mono {T : Tb} {F H : Hp} (h : Le F H) : ∀ (d : D) (v : V), Rep T F d v → Rep T H d v
  | .non, v, r => r
  | .bl b, v, r => r
  | .int i, v, r => r
  | .str x, v, r => r
  | .tup ds, v, r => by
    obtain ⟨a, vs, e, s, q⟩ := r
    exact ⟨a, vs, e, h.t s, Reps.mono h ds vs q⟩
  | .lst ds, v, r => by
    obtain ⟨a, vs, e, s, q⟩ := r
    exact ⟨a, vs, e, h _ _ s, Reps.mono h ds vs q⟩
  | .scr ds, v, r => by
    obtain ⟨a, vs, e, s, q⟩ := r
    exact ⟨a, vs, e, h.l s, Reps.mono h ds vs q⟩
  | .tpk ds, v, r => by
    obtain ⟨a, vs, ob, e, s, q, l⟩ := r
    exact ⟨a, vs, ob, e, h _ _ s, Reps.mono h ds vs q, l⟩
  | .ins c ds, v, r => by
    obtain ⟨a, dx, vs, e, s, q, l⟩ := r
    exact ⟨a, dx, vs, e, h _ _ s, Reps.mono h ds vs q, l⟩
  | .exc c ds, v, r => by
    obtain ⟨a, x, vs, e, s, y, q, l⟩ := r
    exact ⟨a, x, vs, e, h _ _ s, y.imp id fun ⟨ne, dd, y1, y2⟩ => ⟨ne, dd, y1, h _ _ y2⟩, Reps.mono h ds vs q, l⟩
  | .dct ks ds, v, r => by
    obtain ⟨a, vs, e, s, q, l⟩ := r
    exact ⟨a, vs, e, h _ _ s, Reps.mono h ds vs q, l⟩
theorem Reps.mono {T : Tb} {F H : Hp} (h : Le F H) : ∀ (ds : List D) (vs : List V), Reps T F ds vs → Reps T H ds vs
  | [], vs, r => r
  | d :: ds, vs, r => by
    obtain ⟨v, w, e, q, s⟩ := r
    exact ⟨v, w, e, Rep.mono h d v q, Reps.mono h ds w s⟩
end
end Dv
end
section
set_option Elab.async false
set_option maxRecDepth 100000
set_option linter.all false
/-! Own values, the state of a def's slots, steps -/
namespace Dv
open PySem PySem.Spec L2

/-- a value at hand: frozen, or a list of one's own -/
inductive FV where
  | dat (d : D) | lst (ds : List D)
/-- what a slot holds -/
inductive SV where
  | fv (x : FV) | ins (c : Nat) (ds : List D)
abbrev SV.dat (d : D) : SV := .fv (.dat d)
abbrev SV.lst (ds : List D) : SV := .fv (.lst ds)
/-- what an expression comes to: a value, or a slot -/
inductive R where
  | val (x : FV) | slot (i : Nat)
abbrev En := List (Option SV)
structure Ex where
  c : Nat
  ds : List D
inductive Out (α : Type) where
  | ok (a : α) (ρ : En) | exc (e : Ex) (ρ : En) | stuck
abbrev M (α : Type) := En → Out α
def Out.holds {α : Type} (o : Out α) (Q : α → En → Prop) (E : Ex → En → Prop) : Prop := match o with
  | .ok a ρ => Q a ρ
  | .exc e ρ => E e ρ
  | .stuck => False
@[simp] def M.bnd {α β : Type} (m : M α) (f : α → M β) : M β := fun ρ => match m ρ with
  | .ok a ρ' => f a ρ'
  | .exc e ρ' => .exc e ρ'
  | .stuck => .stuck
def M.ret {α : Type} (a : α) : M α := fun ρ => .ok a ρ
def M.opt {α : Type} (o : Option α) : M α := fun ρ => match o with
  | some a => .ok a ρ
  | none => .stuck
theorem Out.holds_imp {α : Type} {o : Out α} {Q Q' : α → En → Prop} {E E' : Ex → En → Prop} (h : o.holds Q E) (hq : ∀ a ρ, Q a ρ → Q' a ρ) (he : ∀ e ρ, E e ρ → E' e ρ) : o.holds Q' E' := by
  cases o with
  | ok a ρ => exact hq a ρ h
  | exc e ρ => exact he e ρ h
  | stuck => exact h
theorem bnd_holds {α β : Type} {m : M α} {f : α → M β} {ρ : En} {Q : β → En → Prop} {E : Ex → En → Prop} (h : (m.bnd f ρ).holds Q E) : (m ρ).holds (fun a ρ' => (f a ρ').holds Q E) E := by
  unfold M.bnd at h
  cases e : m ρ with
  | ok a ρ' => rw [e] at h; exact h
  | exc x ρ' => rw [e] at h; exact h
  | stuck => rw [e] at h; exact h
theorem opt_holds {α : Type} {o : Option α} {ρ : En} {Q : α → En → Prop} {E : Ex → En → Prop} (h : (M.opt o ρ).holds Q E) : ∃ a, o = some a ∧ Q a ρ := by
  cases o with
  | none => exact h.elim
  | some a => exact ⟨a, rfl, h⟩

def FV.frz : FV → D
  | .dat d => d
  | .lst ds => .lst ds
def SV.frz : SV → D
  | .fv x => x.frz
  | .ins c ds => .ins c ds

/-- whose an address is: a slot's -/
abbrev Wn := Addr → Option Nat

/-- frozen content, or a list that stands in H while its items are frozen -/
def FvOk (T : Tb) (F H : Hp) (w : Wn) (p : Nat) : FV → V → Prop
  | .dat d, v => Rep T F d v
  | .lst ds, v => ∃ a vs, v = .ref a ∧ w a = some p ∧ H a = some (.lst vs) ∧ Reps T F ds vs
def SvOk (T : Tb) (F H : Hp) (w : Wn) (i : Nat) : SV → V → Prop
  | .fv x, v => FvOk T F H w i x v
  | .ins c ds, v => ∃ a dx vs, v = .ref a ∧ w a = some i ∧ H a = some (.ins (T.ca c) dx ((T.fl c).zip vs)) ∧ ds.length ≤ (T.fl c).length ∧ Reps T F ds vs ∧ c < T.nc

/-- the state of a def: F the frozen part of H, w whose the others are -/
structure Ok (T : Tb) (F H : Hp) (w : Wn) (σ : St) (ρ : En) : Prop where
  sub : Le F H
  own : ∀ a p, w a = some p → F a = none ∧ H a ≠ none
  len : ρ.length = σ.length
  sl : ∀ (i : Nat) (x : SV), ρ[i]? = some (some x) → ∃ v, σ[i]? = some (some v) ∧ SvOk T F H w i x v

/-- from a state to a later one -/
structure Sp2 (F H : Hp) (w : Wn) (F' H' : Hp) (w' : Wn) : Prop where
  ext : Le F F'
  same : ∀ a o, H a = some o → w a = none → H' a = some o
  keep : ∀ a, H a ≠ none → H' a ≠ none
  nofr : ∀ a, H a ≠ none → w a = none → F a = none → F' a = none
  ownd : ∀ a i, w' a = some i → w a = some i ∨ H a = none

theorem Sp2.refl {F H : Hp} {w : Wn} : Sp2 F H w F H w := ⟨fun _ _ h => h, fun _ _ h _ => h, fun _ h => h, fun _ _ _ h => h, fun _ _ h => .inl h⟩
theorem some_ne {α : Type} {o : Option α} {a : α} (h : o = some a) : o ≠ none := by rw [h]; exact fun z => nomatch z
theorem Sp2.nw {F H F' H' : Hp} {w w' : Wn} (s : Sp2 F H w F' H' w') {a : Addr} (ha : H a ≠ none) (hw : w a = none) : w' a = none := by
  cases e : w' a with
  | none => rfl
  | some p =>
    rcases s.ownd a p e with z | z
    · rw [hw] at z; cases z
    · exact absurd z ha
theorem Sp2.back {F H F' H' : Hp} {w w' : Wn} (s : Sp2 F H w F' H' w') {a : Addr} (h : H' a = none) : H a = none := by
  cases e : H a with
  | none => rfl
  | some o => exact absurd h (s.keep a (some_ne e))
theorem Sp2.trans {F H F1 H1 F2 H2 : Hp} {w w1 w2 : Wn} (a : Sp2 F H w F1 H1 w1) (b : Sp2 F1 H1 w1 F2 H2 w2) : Sp2 F H w F2 H2 w2 :=
  ⟨fun x o h => b.ext x o (a.ext x o h), fun x o h hw => b.same x o (a.same x o h hw) (a.nw (some_ne h) hw), fun x h => b.keep x (a.keep x h),
    fun x h hw hf => b.nofr x (a.keep x h) (a.nw h hw) (a.nofr x h hw hf), fun x i h => (b.ownd x i h).elim (a.ownd x i) fun z => .inr (a.back z)⟩

/-- a value at hand that stands by itself; a list: new since H0 -/
def TvOk (T : Tb) (H0 F H : Hp) (w : Wn) : FV → V → Prop
  | .dat d, v => Rep T F d v
  | .lst ds, v => ∃ a vs, v = .ref a ∧ H0 a = none ∧ w a = none ∧ F a = none ∧ H a = some (.lst vs) ∧ Reps T F ds vs
/-- what an expression has come to -/
def ROk (T : Tb) (H0 F H : Hp) (w : Wn) (σ : St) : R → V → Prop
  | .val x, v => TvOk T H0 F H w x v
  | .slot i, v => σ[i]? = some (some v)
/-- what may be read: content and value -/
def Cn (T : Tb) (F H : Hp) : FV → V → Prop
  | .dat d, v => Rep T F d v
  | .lst ds, v => ∃ a vs, v = .ref a ∧ F a = none ∧ H a = some (.lst vs) ∧ Reps T F ds vs

theorem TvOk.step {T : Tb} {H0 F H F' H' : Hp} {w w' : Wn} {x : FV} {v : V} (s : Sp2 F H w F' H' w') (h : TvOk T H0 F H w x v) : TvOk T H0 F' H' w' x v := by
  cases x with
  | dat d => exact Rep.mono s.ext d v h
  | lst ds =>
    obtain ⟨a, vs, e, h0, h1, h2, h3, h4⟩ := h
    exact ⟨a, vs, e, h0, s.nw (some_ne h3) h1, s.nofr a (some_ne h3) h1 h2, s.same a _ h3 h1, Reps.mono s.ext ds vs h4⟩
theorem TvOk.cn {T : Tb} {H0 F H : Hp} {w : Wn} {x : FV} {v : V} (h : TvOk T H0 F H w x v) : Cn T F H x v := by
  cases x with
  | dat d => exact h
  | lst ds =>
    obtain ⟨a, vs, e, h0, h1, h2, h3, h4⟩ := h
    exact ⟨a, vs, e, h2, h3, h4⟩
theorem TvOk.old {T : Tb} {H0 H1 F H : Hp} {w : Wn} {x : FV} {v : V} (h : TvOk T H1 F H w x v) (k : ∀ a, H1 a = none → H0 a = none) : TvOk T H0 F H w x v := by
  cases x with
  | dat d => exact h
  | lst ds =>
    obtain ⟨a, vs, e, h0, r⟩ := h
    exact ⟨a, vs, e, k a h0, r⟩

/-! ### reading a place -/
def getSlot (ρ : En) (i : Nat) : Option FV := match ρ[i]? with
  | some (some (.fv x)) => some x
  | _ => none
def R.get (r : R) (ρ : En) : Option FV := match r with
  | .val x => some x
  | .slot i => getSlot ρ i
def getM (r : R) : M FV := fun ρ => M.opt (r.get ρ) ρ

theorem FvOk.cn {T : Tb} {F H : Hp} {w : Wn} {p : Nat} {x : FV} {v : V} (hw : ∀ a p, w a = some p → F a = none ∧ H a ≠ none) (h : FvOk T F H w p x v) : Cn T F H x v := by
  cases x with
  | dat d => exact h
  | lst ds =>
    obtain ⟨a, vs, e, h1, h2, h3⟩ := h
    exact ⟨a, vs, e, (hw a p h1).1, h2, h3⟩
theorem ROk.cn {T : Tb} {H0 F H : Hp} {w : Wn} {σ : St} {ρ : En} {r : R} {v : V} {x : FV} (O : Ok T F H w σ ρ) (h : ROk T H0 F H w σ r v) (g : r.get ρ = some x) : Cn T F H x v := by
  cases r with
  | val y =>
    cases (show some y = some x from g)
    exact TvOk.cn h
  | slot i =>
    have g' : getSlot ρ i = some x := g
    unfold getSlot at g'
    split at g'
    · rename_i y e
      cases g'
      obtain ⟨u, e1, e2⟩ := O.sl i _ e
      have h' : σ[i]? = some (some v) := h
      rw [h'] at e1
      cases e1
      exact FvOk.cn O.own e2
    · cases g'
theorem ROk.step {T : Tb} {H0 F H F' H' : Hp} {w w' : Wn} {σ : St} {r : R} {v : V} (s : Sp2 F H w F' H' w') (h : ROk T H0 F H w σ r v) : ROk T H0 F' H' w' σ r v := by
  cases r with
  | val x => exact TvOk.step s h
  | slot i => exact h
theorem ROk.old {T : Tb} {H0 H1 F H : Hp} {w : Wn} {σ : St} {r : R} {v : V} (h : ROk T H1 F H w σ r v) (k : ∀ a, H1 a = none → H0 a = none) : ROk T H0 F H w σ r v := by
  cases r with
  | val x => exact TvOk.old h k
  | slot i => exact h
/-- the content over the whole heap -/
theorem Cn.rep {T : Tb} {F H : Hp} {x : FV} {v : V} (l : Le F H) (h : Cn T F H x v) : Rep T H x.frz v := by
  cases x with
  | dat d => exact Rep.mono l d v h
  | lst ds =>
    obtain ⟨a, vs, e, h1, h2, h3⟩ := h
    exact ⟨a, vs, e, h2, Reps.mono l ds vs h3⟩
/-- a list that may be read: its items are frozen -/
theorem Cn.list {T : Tb} {F H : Hp} {x : FV} {v : V} {ds : List D} (l : Le F H) (h : Cn T F H x v) (e : x.frz = .lst ds) : ∃ a vs, v = .ref a ∧ H a = some (.lst vs) ∧ Reps T F ds vs := by
  cases x with
  | dat d =>
    cases (show d = D.lst ds from e)
    obtain ⟨a, vs, e, h1, h2⟩ := h
    exact ⟨a, vs, e, l _ _ h1, h2⟩
  | lst ds' =>
    obtain ⟨a, vs, e', h1, h2, h3⟩ := h
    have e2 : D.lst ds' = D.lst ds := e
    injection e2 with e2
    subst e2
    exact ⟨a, vs, e', h2, h3⟩
theorem Cn.tup {T : Tb} {F H : Hp} {x : FV} {v : V} {ds : List D} (l : Le F H) (h : Cn T F H x v) (e : x.frz = .tup ds) : ∃ a vs, v = .ref a ∧ SqT T.K F a vs ∧ Reps T F ds vs := by
  cases x with
  | dat d =>
    cases (show d = D.tup ds from e)
    exact h
  | lst ds' => cases (show D.lst ds' = D.tup ds from e)
theorem Cn.int {T : Tb} {F H : Hp} {x : FV} {v : V} {i : Int} (h : Cn T F H x v) (e : x.frz = .int i) : v = .int i := by
  cases x with
  | dat d => cases (show d = D.int i from e); exact h
  | lst ds' => cases (show D.lst ds' = D.int i from e)
theorem Cn.bl {T : Tb} {F H : Hp} {x : FV} {v : V} {i : Bool} (h : Cn T F H x v) (e : x.frz = .bl i) : v = .bl i := by
  cases x with
  | dat d => cases (show d = D.bl i from e); exact h
  | lst ds' => cases (show D.lst ds' = D.bl i from e)
theorem Cn.str {T : Tb} {F H : Hp} {x : FV} {v : V} {i : Str} (h : Cn T F H x v) (e : x.frz = .str i) : v = .str i := by
  cases x with
  | dat d => cases (show d = D.str i from e); exact h
  | lst ds' => cases (show D.lst ds' = D.str i from e)
theorem Reps.len {T : Tb} {F : Hp} : ∀ {ds : List D} {vs : List V}, Reps T F ds vs → vs.length = ds.length
  | [], vs, h => by rw [show vs = [] from h]; rfl
  | d :: ds, vs, h => by
    obtain ⟨v, r, rfl, h1, h2⟩ := h
    rw [List.length_cons, List.length_cons, Reps.len h2]
theorem Reps.get {T : Tb} {F : Hp} : ∀ {ds : List D} {vs : List V} {i : Nat} {d : D}, Reps T F ds vs → ds[i]? = some d → ∃ v, vs[i]? = some v ∧ Rep T F d v
  | [], vs, i, d, h, e => by simp at e
  | y :: ds, vs, 0, d, h, e => by
    obtain ⟨v, r, rfl, h1, h2⟩ := h
    cases (show some y = some d by simpa using e)
    exact ⟨v, rfl, h1⟩
  | y :: ds, vs, i + 1, d, h, e => by
    obtain ⟨v, r, rfl, h1, h2⟩ := h
    obtain ⟨u, e1, e2⟩ := Reps.get (i := i) h2 (show ds[i]? = some d by simpa using e)
    exact ⟨u, by simpa using e1, e2⟩
theorem Reps.get' {T : Tb} {F : Hp} {ds : List D} {vs : List V} {i : Nat} {v : V} (h : Reps T F ds vs) (e : vs[i]? = some v) : ∃ d, ds[i]? = some d ∧ Rep T F d v := by
  have hl := h.len
  have hi : i < ds.length := by
    have := (List.getElem?_eq_some_iff.mp e).1
    omega
  obtain ⟨u, e1, e2⟩ := h.get (List.getElem?_eq_getElem hi)
  rw [e] at e1
  cases e1
  exact ⟨_, List.getElem?_eq_getElem hi, e2⟩
theorem Reps.append {T : Tb} {F : Hp} : ∀ {ds es : List D} {vs us : List V}, Reps T F ds vs → Reps T F es us → Reps T F (ds ++ es) (vs ++ us)
  | [], es, vs, us, h, k => by rw [show vs = [] from h]; exact k
  | d :: ds, es, vs, us, h, k => by
    obtain ⟨v, r, rfl, h1, h2⟩ := h
    exact ⟨v, r ++ us, rfl, h1, Reps.append h2 k⟩
end Dv
end
section
set_option Elab.async false
set_option maxRecDepth 100000
set_option linter.all false
/-! Taking, storing, changing -/
namespace Dv
open PySem PySem.Spec L2

theorem SvOk.mono {T : Tb} {F H F' H' : Hp} {w w' : Wn} {i : Nat} {x : SV} {v : V} (h : SvOk T F H w i x v) (hf : Le F F') (hw : ∀ a, w a = some i → w' a = some i ∧ ∀ o, H a = some o → H' a = some o) : SvOk T F' H' w' i x v := by
  cases x with
  | fv y =>
    cases y with
    | dat d => exact Rep.mono hf d v h
    | lst ds =>
      obtain ⟨a, vs, e, h1, h2, h3⟩ := h
      exact ⟨a, vs, e, (hw a h1).1, (hw a h1).2 _ h2, Reps.mono hf ds vs h3⟩
  | ins c ds =>
    obtain ⟨a, dx, vs, e, h1, h2, h3, h4, h5⟩ := h
    exact ⟨a, dx, vs, e, (hw a h1).1, (hw a h1).2 _ h2, h3, Reps.mono hf ds vs h4, h5⟩

/-- the frozen part with what slot i owns -/
def addF (F H : Hp) (w : Wn) (i : Nat) : Hp := fun a => if w a = some i then H a else F a
/-- slot i owns nothing any more -/
def dropW (w : Wn) (i : Nat) : Wn := fun a => if w a = some i then none else w a
def putW (w : Wn) (i : Nat) (a : Addr) : Wn := fun b => if b = a then some i else dropW w i b
theorem addF_le {T : Tb} {F H : Hp} {w : Wn} {σ : St} {ρ : En} {i : Nat} (O : Ok T F H w σ ρ) : Le F (addF F H w i) := fun a o h => by
  unfold addF
  split
  · rename_i e
    rw [(O.own a i e).1] at h
    cases h
  · exact h
theorem addF_sub {T : Tb} {F H : Hp} {w : Wn} {σ : St} {ρ : En} {i : Nat} (O : Ok T F H w σ ρ) : Le (addF F H w i) H := fun a o h => by
  unfold addF at h
  split at h
  · exact h
  · exact O.sub a o h
theorem dropW_ne {w : Wn} {i : Nat} {a : Addr} (h : w a ≠ some i) : dropW w i a = w a := by
  unfold dropW
  rw [if_neg h]
theorem dropW_some {w : Wn} {i j : Nat} {a : Addr} (h : dropW w i a = some j) : w a = some j ∧ j ≠ i := by
  unfold dropW at h
  split at h
  · cases h
  · rename_i e
    refine ⟨h, fun z => e ?_⟩
    rw [h, z]
theorem frz_rep {T : Tb} {F H : Hp} {w : Wn} {σ : St} {ρ : En} {i : Nat} {x : SV} {v : V} (O : Ok T F H w σ ρ) (h : SvOk T F H w i x v) (hi : ∀ c ds, x = .ins c ds → ds.length = (T.fl c).length) : Rep T (addF F H w i) x.frz v := by
  cases x with
  | fv y =>
    cases y with
    | dat d => exact Rep.mono (addF_le O) d v h
    | lst ds =>
      obtain ⟨a, vs, e, h1, h2, h3⟩ := h
      exact ⟨a, vs, e, (by unfold addF; rw [if_pos h1]; exact h2), Reps.mono (addF_le O) ds vs h3⟩
  | ins c ds =>
    obtain ⟨a, dx, vs, e, h1, h2, h3, h4, h5⟩ := h
    exact ⟨a, dx, vs, e, by unfold addF; rw [if_pos h1]; exact h2, Reps.mono (addF_le O) ds vs h4, hi c ds rfl, h5⟩

/-- all is frozen that slot i owns -/
theorem freeze_ok {T : Tb} {F H F0 H0 : Hp} {w w0 : Wn} {σ : St} {ρ : En} {i : Nat} {x : SV} (O : Ok T F H w σ ρ) (s : Sp2 F0 H0 w0 F H w) (e : ρ[i]? = some (some x)) (hi : ∀ c ds, x = .ins c ds → ds.length = (T.fl c).length) :
    ∃ v, σ[i]? = some (some v) ∧ Ok T (addF F H w i) H (dropW w i) σ (ρ.set i (some (.dat x.frz))) ∧ Sp2 F0 H0 w0 (addF F H w i) H (dropW w i) ∧ Rep T (addF F H w i) x.frz v := by
  obtain ⟨v, e1, e2⟩ := O.sl i x e
  have hr := frz_rep O e2 hi
  have hlt : i < ρ.length := (List.getElem?_eq_some_iff.mp e).1
  refine ⟨v, e1, ⟨addF_sub O, fun a j h => ?_, by rw [List.length_set]; exact O.len, fun j y h => ?_⟩, ⟨fun a o h => addF_le O a o (s.ext a o h), s.same, s.keep, fun a ha hw hf => ?_, fun a j h => ?_⟩, hr⟩
  · obtain ⟨h1, h2⟩ := dropW_some h
    refine ⟨?_, (O.own a j h1).2⟩
    unfold addF
    rw [if_neg (by rw [h1]; exact fun z => h2 (Option.some.inj z))]
    exact (O.own a j h1).1
  · by_cases hj : j = i
    · subst hj
      rw [List.getElem?_set_self hlt] at h
      cases h
      exact ⟨v, e1, hr⟩
    · rw [List.getElem?_set_ne (Ne.symm hj)] at h
      obtain ⟨u, q1, q2⟩ := O.sl j y h
      refine ⟨u, q1, q2.mono (addF_le O) fun a ha => ⟨?_, fun o z => z⟩⟩
      rw [dropW_ne (by rw [ha]; exact fun z => hj (Option.some.inj z))]
      exact ha
  · have z := s.nw ha hw
    unfold addF
    rw [if_neg (by rw [z]; exact fun z => nomatch z)]
    exact s.nofr a ha hw hf
  · exact s.ownd a j (dropW_some h).1

def takeM (r : R) : M D := match r with
  | .val x => M.ret x.frz
  | .slot i => fun ρ => match ρ[i]? with
    | some (some (.fv (.dat d))) => .ok d ρ
    | some (some (.fv (.lst ds))) => .ok (.lst ds) (ρ.set i (some (.dat (.lst ds))))
    | _ => .stuck

theorem upd_le {F : Hp} {a : Addr} {o : HO} (h : F a = none) : Le F (upd F a o) := fun b u e => by
  rw [upd_ne (ne_of_none e h)]
  exact e

theorem take_ok {T : Tb} {F H F0 H0 : Hp} {w w0 : Wn} {σ : St} {ρ : En} {r : R} {v : V} {K : D → En → Prop} {E : Ex → En → Prop} (O : Ok T F H w σ ρ) (s : Sp2 F0 H0 w0 F H w) (h : ROk T H0 F H w σ r v) (hk : (takeM r ρ).holds K E) :
    ∃ d ρ' F' w', K d ρ' ∧ Ok T F' H w' σ ρ' ∧ Sp2 F0 H0 w0 F' H w' ∧ Rep T F' d v := by
  cases r with
  | val x =>
    cases x with
    | dat d => exact ⟨d, ρ, F, w, hk, O, s, h⟩
    | lst ds =>
      obtain ⟨a, vs, e, h0, h1, h2, h3, h4⟩ := h
      have hl : Le F (upd F a (.lst vs)) := upd_le h2
      refine ⟨.lst ds, ρ, upd F a (.lst vs), w, hk, ⟨fun b o q => ?_, fun b j q => ?_, O.len, fun j y q => ?_⟩, ⟨fun b o q => hl b o (s.ext b o q), s.same, s.keep, fun b q1 q2 q3 => ?_, s.ownd⟩, a, vs, e, upd_same, Reps.mono hl ds vs h4⟩
      · by_cases hb : b = a
        · subst hb
          rw [upd_same] at q
          cases q
          exact h3
        · rw [upd_ne hb] at q
          exact O.sub b o q
      · have hb : b ≠ a := fun z => by
          rw [z, h1] at q
          cases q
        rw [upd_ne hb]
        exact O.own b j q
      · obtain ⟨u, q1, q2⟩ := O.sl j y q
        exact ⟨u, q1, q2.mono hl fun b hb => ⟨hb, fun o z => z⟩⟩
      · have hb : b ≠ a := fun z => by
          rw [z] at q1
          exact q1 h0
        rw [upd_ne hb]
        exact s.nofr b q1 q2 q3
  | slot i =>
    have h' : σ[i]? = some (some v) := h
    unfold takeM at hk
    dsimp only at hk
    split at hk
    · rename_i d e
      obtain ⟨u, q1, q2⟩ := O.sl i _ e
      rw [h'] at q1
      cases q1
      exact ⟨d, ρ, F, w, hk, O, s, q2⟩
    · rename_i ds e
      obtain ⟨u, q1, q2, q3, q4⟩ := freeze_ok O s e (fun c ds z => nomatch z)
      rw [h'] at q1
      cases q1
      exact ⟨_, _, _, _, hk, q2, q3, q4⟩
    · exact hk.elim

/-- a value at hand goes to a slot -/
theorem put_ok {T : Tb} {F H F0 H0 : Hp} {w w0 : Wn} {σ : St} {ρ : En} {x : FV} {v : V} {i : Nat} (O : Ok T F H w σ ρ) (s : Sp2 F0 H0 w0 F H w) (h : TvOk T H0 F H w x v) (hi : i < σ.length) :
    ∃ w', Ok T F H w' (σ.set i (some v)) (ρ.set i (some (.fv x))) ∧ Sp2 F0 H0 w0 F H w' := by
  have hi' : i < ρ.length := by rw [O.len]; exact hi
  have rest : ∀ (w' : Wn), (∀ a j, j ≠ i → w a = some j → w' a = some j) → ∀ j y, j ≠ i → (ρ.set i (some (.fv x)))[j]? = some (some y) → ∃ u, (σ.set i (some v))[j]? = some (some u) ∧ SvOk T F H w' j y u := fun w' hw j y hj q => by
    rw [List.getElem?_set_ne (Ne.symm hj)] at q ⊢
    obtain ⟨u, q1, q2⟩ := O.sl j y q
    exact ⟨u, q1, q2.mono (fun _ _ z => z) fun a ha => ⟨hw a j hj ha, fun o z => z⟩⟩
  cases x with
  | dat d =>
    refine ⟨dropW w i, ⟨O.sub, fun a j q => O.own a j (dropW_some q).1, by rw [List.length_set, List.length_set]; exact O.len, fun j y q => ?_⟩, ⟨s.ext, s.same, s.keep, s.nofr, fun a j q => s.ownd a j (dropW_some q).1⟩⟩
    · by_cases hj : j = i
      · subst hj
        rw [List.getElem?_set_self hi'] at q
        cases q
        exact ⟨v, List.getElem?_set_self hi, h⟩
      · exact rest _ (fun a k hk q => by rw [dropW_ne (by rw [q]; exact fun z => hk (Option.some.inj z))]; exact q) j y hj q
  | lst ds =>
    obtain ⟨a, vs, e, h0, h1, h2, h3, h4⟩ := h
    refine ⟨putW w i a, ⟨O.sub, fun b j q => ?_, by rw [List.length_set, List.length_set]; exact O.len, fun j y q => ?_⟩, ⟨s.ext, s.same, s.keep, s.nofr, fun b j q => ?_⟩⟩
    · unfold putW at q
      split at q
      · rename_i hb
        subst hb
        exact ⟨h2, some_ne h3⟩
      · exact O.own b j (dropW_some q).1
    · by_cases hj : j = i
      · subst hj
        rw [List.getElem?_set_self hi'] at q
        cases q
        exact ⟨v, List.getElem?_set_self hi, a, vs, e, by unfold putW; rw [if_pos rfl], h3, h4⟩
      · refine rest _ (fun b k hk q => ?_) j y hj q
        unfold putW
        rw [if_neg (fun z => by rw [z, h1] at q; cases q), dropW_ne (by rw [q]; exact fun z => hk (Option.some.inj z))]
        exact q
    · unfold putW at q
      split at q
      · rename_i hb
        subst hb
        exact .inr h0
      · exact s.ownd b j (dropW_some q).1

/-- r goes to slot i: a list of one's own with it -/
def storeM (i : Nat) (r : R) : M Unit := match r with
  | .val x => fun ρ => .ok () (ρ.set i (some (.fv x)))
  | .slot j => (takeM (.slot j)).bnd fun d ρ => .ok () (ρ.set i (some (.dat d)))
theorem store_ok {T : Tb} {F H F0 H0 : Hp} {w w0 : Wn} {σ : St} {ρ : En} {r : R} {v : V} {i : Nat} {K : Unit → En → Prop} {E : Ex → En → Prop} (O : Ok T F H w σ ρ) (s : Sp2 F0 H0 w0 F H w) (h : ROk T H0 F H w σ r v) (hi : i < σ.length) (hk : (storeM i r ρ).holds K E) :
    ∃ ρ' F' w', K () ρ' ∧ Ok T F' H w' (σ.set i (some v)) ρ' ∧ Sp2 F0 H0 w0 F' H w' := by
  cases r with
  | val x =>
    obtain ⟨w', O', s'⟩ := put_ok (x := x) O s h hi
    exact ⟨_, F, w', hk, O', s'⟩
  | slot j =>
    obtain ⟨d, ρ1, F1, w1, k1, O1, s1, q⟩ := take_ok O s h (bnd_holds hk)
    obtain ⟨w', O', s'⟩ := put_ok (x := .dat d) O1 s1 q hi
    exact ⟨_, F1, w', k1, O', s'⟩

/-- slot i's list at a is changed -/
theorem mut_ok {T : Tb} {F H F0 H0 : Hp} {w w0 : Wn} {σ : St} {ρ : En} {i : Nat} {a : Addr} {o : HO} {x : SV} (O : Ok T F H w σ ρ) (s : Sp2 F0 H0 w0 F H w) (ha : w a = some i) (hi : i < ρ.length) (v : V) (hv : σ[i]? = some (some v)) (hx : SvOk T F (upd H a o) w i x v) :
    Ok T F (upd H a o) w σ (ρ.set i (some x)) ∧ Sp2 F0 H0 w0 F (upd H a o) w := by
  have hf := (O.own a i ha).1
  refine ⟨⟨fun b u q => ?_, fun b j q => ⟨(O.own b j q).1, ?_⟩, by rw [List.length_set]; exact O.len, fun j y q => ?_⟩, ⟨s.ext, fun b u q1 q2 => ?_, fun b q => ?_, s.nofr, s.ownd⟩⟩
  · rw [upd_ne (fun z => by rw [z, hf] at q; cases q)]
    exact O.sub b u q
  · by_cases hb : b = a
    · rw [hb, upd_same]
      exact fun z => nomatch z
    · rw [upd_ne hb]
      exact (O.own b j q).2
  · by_cases hj : j = i
    · subst hj
      rw [List.getElem?_set_self hi] at q
      cases q
      exact ⟨v, hv, hx⟩
    · rw [List.getElem?_set_ne (Ne.symm hj)] at q
      obtain ⟨u, q1, q2⟩ := O.sl j y q
      refine ⟨u, q1, q2.mono (fun _ _ z => z) fun b hb => ⟨hb, fun o' z => ?_⟩⟩
      rw [upd_ne (fun z => by rw [z, ha] at hb; exact hj (Option.some.inj hb).symm)]
      exact z
  · have hb : b ≠ a := fun z => by
      rw [z] at q1 q2
      have := s.nw (some_ne q1) q2
      rw [ha] at this
      cases this
    rw [upd_ne hb]
    exact s.same b u q1 q2
  · by_cases hb : b = a
    · rw [hb, upd_same]
      exact fun z => nomatch z
    · rw [upd_ne hb]
      exact s.keep b q

/-- something new, frozen -/
theorem newF_ok {T : Tb} {F H F0 H0 : Hp} {w w0 : Wn} {σ : St} {ρ : En} {a : Addr} {o : HO} (O : Ok T F H w σ ρ) (s : Sp2 F0 H0 w0 F H w) (ha : H a = none) :
    Ok T (upd F a o) (upd H a o) w σ ρ ∧ Sp2 F0 H0 w0 (upd F a o) (upd H a o) w := by
  have hf : F a = none := by
    cases e : F a with
    | none => rfl
    | some u =>
      rw [O.sub a u e] at ha
      cases ha
  have hw : w a = none := by
    cases e : w a with
    | none => rfl
    | some j => exact absurd ha (O.own a j e).2
  have l1 : Le F (upd F a o) := upd_le hf
  have l2 : Le H (upd H a o) := upd_le ha
  refine ⟨⟨fun b u q => ?_, fun b j q => ?_, O.len, fun j y q => ?_⟩, ⟨fun b u q => l1 b u (s.ext b u q), fun b u q1 q2 => l2 b u (s.same b u q1 q2), fun b q => ?_, fun b q1 q2 q3 => ?_, s.ownd⟩⟩
  · by_cases hb : b = a
    · subst hb
      rw [upd_same] at q ⊢
      exact q
    · rw [upd_ne hb] at q ⊢
      exact O.sub b u q
  · have hb : b ≠ a := fun z => by
      rw [z, hw] at q
      cases q
    rw [upd_ne hb, upd_ne hb]
    exact O.own b j q
  · obtain ⟨u, q1, q2⟩ := O.sl j y q
    exact ⟨u, q1, q2.mono l1 fun b hb => ⟨hb, fun o' z => l2 b o' z⟩⟩
  · cases e : H b with
    | none => exact absurd e (s.keep b q)
    | some u => exact some_ne (l2 b u e)
  · have hb : b ≠ a := fun z => by
      rw [z] at q1
      exact s.keep a q1 ha
    rw [upd_ne hb]
    exact s.nofr b q1 q2 q3
/-- something new, not frozen (a list at hand) -/
theorem newH_ok {T : Tb} {F H F0 H0 : Hp} {w w0 : Wn} {σ : St} {ρ : En} {a : Addr} {o : HO} (O : Ok T F H w σ ρ) (s : Sp2 F0 H0 w0 F H w) (ha : H a = none) :
    Ok T F (upd H a o) w σ ρ ∧ Sp2 F0 H0 w0 F (upd H a o) w ∧ F a = none ∧ w a = none ∧ H0 a = none := by
  have hf : F a = none := by
    cases e : F a with
    | none => rfl
    | some u =>
      rw [O.sub a u e] at ha
      cases ha
  have hw : w a = none := by
    cases e : w a with
    | none => rfl
    | some j => exact absurd ha (O.own a j e).2
  have l2 : Le H (upd H a o) := upd_le ha
  refine ⟨⟨fun b u q => l2 b u (O.sub b u q), fun b j q => ?_, O.len, fun j y q => ?_⟩, ⟨s.ext, fun b u q1 q2 => l2 b u (s.same b u q1 q2), fun b q => ?_, s.nofr, s.ownd⟩, hf, hw, s.back ha⟩
  · have hb : b ≠ a := fun z => by
      rw [z, hw] at q
      cases q
    rw [upd_ne hb]
    exact O.own b j q
  · obtain ⟨u, q1, q2⟩ := O.sl j y q
    exact ⟨u, q1, q2.mono (fun _ _ z => z) fun b hb => ⟨hb, fun o' z => l2 b o' z⟩⟩
  · cases e : H b with
    | none => exact absurd e (s.keep b q)
    | some u => exact some_ne (l2 b u e)
def getAll : List R → En → Option (List FV)
  | [], _ => some []
  | r :: rs, ρ => match r.get ρ, getAll rs ρ with
    | some x, some xs => some (x :: xs)
    | _, _ => none
end Dv
end
section
set_option Elab.async false
set_option maxRecDepth 100000
set_option linter.all false
/-! The little language and what it comes to -/
namespace Dv
open PySem PySem.Spec L2

/-- built-in functions that are read alone -/
inductive BI where
  | len | str | int | list | tuple | sum | max1 | max2 | min2 | all_ | any_ | abs | bool | sorted | lenSet | sortedSet | maxD | allI | tupleK | lenSetT
  deriving DecidableEq
/-- methods of built-in types that read -/
inductive BM where
  | join | split | partition | index | indexK | count | countK | bitLength | upper | replace | indexT
  deriving DecidableEq
/-- methods of lists that change them -/
inductive MM where
  | append | pop | popAt | remove | clear | extend | reverse
  deriving DecidableEq
/-- what isinstance asks for -/
inductive Ty where
  | bt (n : String) | cls (c : Nat) (subs : List Nat) | exc (c : Nat) (subs : List Nat)
  deriving DecidableEq
/-- targets -/
inductive Tg where
  | nm (i : Nat) | tp (ts : List Tg)

mutual
inductive CE where
  | var (i : Nat)
  | lit (d : D)
  | glo (x : Str) (d : D)
  | bin (o : Operator) (a b : CE)
  | un (o : UnaryOp) (a : CE)
  | cmp (o : CmpOp) (a b : CE)
  | cm2 (o p : CmpOp) (a b c : CE)
  | ands (es : CEs)
  | ors (es : CEs)
  | nt (a : CE)
  | ite (c : CT) (a b : CE)
  | tup (es : CEs)
  | tpk (es : CEs)
  | lst (es : CEs)
  | ix (a b : CE)
  | slc (a : CE) (lo hi : CO)
  | fld (f : Str) (tb : List (Nat × Nat)) (a : CE)
  | call (f : Nat) (es : CEs)
  | mk (c n f : Nat) (es : CEs)
  | meth (m : Str) (tb : List (Nat × Nat)) (o : CE) (es : CEs)
  | bc (b : BI) (es : CEs)
  | bm (b : BM) (o : CE) (es : CEs)
  | mm (m : MM) (o : CE) (es : CEs)
  | lc (own : List Nat) (g : Tg) (it : CI) (c : CTs) (e : CE)
  | isi (a : CE) (t : Ty)
  | slr (a : CE)
  | dget (kvs : List (D × D)) (k d : CE)
  | dix (kvs : List (D × D)) (k : CE)
  | itl (b : Bool) (it : CI)
  | dsp (kvs : List (D × D))
  | dgt (o k d : CE)
  | dg1 (o k : CE)
  | dxv (o k : CE)
  | din (b : Bool) (k o : CE)
inductive CEs where
  | nil | cons (e : CE) (es : CEs)
inductive CO where
  | no | yes (e : CE)
inductive CT where
  | val (e : CE)
  | cmp (o : CmpOp) (a b : CE)
  | cm2 (o p : CmpOp) (a b c : CE)
  | ands (ts : CTs)
  | ors (ts : CTs)
  | nt (t : CT)
  | din (b : Bool) (k o : CE)
inductive CTs where
  | nil | cons (t : CT) (ts : CTs)
inductive CI where
  | slot (i : Nat) | seq (e : CE) | rng1 (a : CE) | rng2 (a b : CE) | rng3 (a b c : CE) | enum (e : CE) | zip2 (a b : CE) | zipM (a b : CE) | rev (e : CE) | zip4 (a b c d : CE) | enzip (a b : CE)
end
mutual
inductive CS where
  | expr (e : CE)
  | ret (e : CE)
  | retN
  | pass
  | brk
  | cont
  | set (i : Nat) (e : CE)
  | setT (g : Tg) (e : CE)
  | par (is : List Nat) (es : CEs)
  | aug (i : Nat) (o : Operator) (e : CE)
  | setIx (i : Nat) (ix e : CE)
  | augIx (i : Nat) (ix : CE) (o : Operator) (e : CE)
  | fset (i : Nat) (f : Str) (tb : List (Nat × Nat)) (e : CE)
  | fsetK (i : Nat) (f : Str) (tb : List (Nat × Nat)) (e : CE)
  | iff (t : CT) (a b : CSs)
  | whl (t : CT) (b : CSs)
  | for_ (g : Tg) (it : CI) (b : CSs)
  | raise (c : Nat)
  | raiseN (c : Nat) (e : CE)
  | tryAs (b : CSs) (c : Nat) (subs : List Nat) (i j : Nat)
  | tryOnly (b : CSs) (c : Nat) (subs : List Nat) (i : Nat) (e : CE)
  | superInit (c f : Nat) (es : CEs)
inductive CSs where
  | nil | cons (s : CS) (ss : CSs)
end

/-- an argument: a frozen value, or a slot whose list or instance is handed over -/
inductive Ar where
  | dat (d : D) | own (i : Nat) | tmp (ds : List D) | inst (c : Nat)
inductive FO where
  | ok (x : FV) (as : List SV) | exc (e : Ex) (as : List SV) | stuck
abbrev Fn := List SV → FO
/-- how a statement ends -/
inductive Fl where
  | nx | rt (x : FV) | bk | ct

/-! ### the operations by values -/
def mulOk (i j : Int) : Bool := decide (i.natAbs < 2 ^ 64) || decide (j.natAbs < 2 ^ 64) || decide (i.natAbs.log2 + j.natAbs.log2 < 1000000)
def sz (n : Nat) : Bool := decide (n ≤ 16000000)
def bo (o : Operator) (x y : D) : Option FV := match o, x, y with
  | .Add, .int i, .int j => some (.dat (.int (i + j)))
  | .Sub, .int i, .int j => some (.dat (.int (i - j)))
  | .Mult, .int i, .int j => if mulOk i j then some (.dat (.int (i * j))) else none
  | .FloorDiv, .int i, .int j => if decide (0 < j) && decide (j.natAbs < 1073741824) then some (.dat (.int (i / j))) else none
  | .Mod, .int i, .int j => if decide (0 < j) then some (.dat (.int (i % j))) else none
  | .Pow, .int i, .int j => if decide (0 ≤ j) && (decide (j.natAbs ≤ 1000000) && decide (i.natAbs < 2 ^ 64)) then some (.dat (.int (i ^ j.toNat))) else none
  | .LShift, .int i, .int j => if decide (0 ≤ j) && decide (Builtin.Int.intBits i + j.natAbs ≤ 2 ^ 27) then some (.dat (.int (i * 2 ^ j.toNat))) else none
  | .RShift, .int i, .int j => if decide (0 ≤ j) then some (.dat (.int (i / 2 ^ j.toNat))) else none
  | .BitAnd, .int i, .int j => some (.dat (.int (Builtin.bitAnd i j)))
  | .BitOr, .int i, .int j => some (.dat (.int (Builtin.bitOr i j)))
  | .BitXor, .int i, .int j => some (.dat (.int (Builtin.bitXor i j)))
  | .Add, .str x, .str y => if sz (x.length + y.length) then some (.dat (.str (x ++ y))) else none
  | .Add, .lst xs, .lst ys => if sz (xs.length + ys.length) then some (.lst (xs ++ ys)) else none
  | .Add, .tup xs, .tup ys => if sz (xs.length + ys.length) then some (.dat (.tup (xs ++ ys))) else none
  | .Mult, .lst xs, .int k => if decide (k.natAbs < 2 ^ 63) && sz (xs.length * k.toNat) then some (.lst (List.replicate k.toNat xs).flatten) else none
  | .Mult, .tup xs, .int k => if decide (2 ≤ k) && (decide (k.natAbs ≤ 1000) && (!xs.isEmpty && decide (xs.length ≤ 1000))) then some (.dat (.tup (List.replicate k.toNat xs).flatten)) else none
  | _, _, _ => none
def uo (o : UnaryOp) (x : D) : Option FV := match o, x with
  | .USub, .int i => some (.dat (.int (-i)))
  | .Invert, .int i => some (.dat (.int (Builtin.bitNot i)))
  | _, _ => none
end Dv
end
section
set_option Elab.async false
set_option maxRecDepth 100000
set_option linter.all false
namespace Dv
open PySem PySem.Spec L2

/-! ### data as the library compares it -/
mutual
def D.py : D → Option PyData
  | .non => some .none
  | .bl b => some (.bool b)
  | .int i => some (.int i)
  | .str x => some (.str x)
  | .tup ds => (pys ds).map .tuple
  | .lst ds => (pys ds).map .list
  | .scr _ => none
  | .tpk _ => none
  | .ins _ _ => none
  | .exc _ _ => none
  | .dct _ _ => none
def pys : List D → Option (List PyData)
  | [] => some []
  | d :: ds => match d.py, pys ds with
    | some x, some xs => some (x :: xs)
    | _, _ => none
end
/-- x == y, where both are plain data -/
def eqD (x y : D) : Option Bool := match x.py, y.py with
  | some a, some b => if SeqAt.shaped a && SeqAt.shaped b then some (PyData.eqv a b) else none
  | _, _ => match x, y with
    | .lst (_ :: _), .lst [] => some false
    | _, _ => none
/-- x in ys -/
def inD (x : D) (ys : List D) : Option Bool := match x.py, pys ys with
  | some a, some bs => if SeqAt.shaped a && SeqAt.shaped (.list bs) then some (bs.any fun z => PyData.eqv z a) else none
  | _, _ => none
def co (o : CmpOp) (x y : D) : Option Bool := match o, x, y with
  | .Eq, _, _ => eqD x y
  | .NotEq, _, _ => (eqD x y).map (!·)
  | .Lt, .int i, .int j => some (decide (i < j))
  | .LtE, .int i, .int j => some (decide (i ≤ j))
  | .Gt, .int i, .int j => some (decide (j < i))
  | .GtE, .int i, .int j => some (decide (j ≤ i))
  | .Is, .non, .non => some true
  | .Is, .bl a, .bl b => some (decide (a = b))
  | .Is, x, .non => some false
  | .IsNot, .non, .non => some false
  | .IsNot, .bl a, .bl b => some (!decide (a = b))
  | .IsNot, x, .non => some true
  | .In, _, .lst ys => inD x ys
  | .In, _, .tup ys => inD x ys
  | .NotIn, _, .lst ys => (inD x ys).map (!·)
  | .NotIn, _, .tup ys => (inD x ys).map (!·)
  | .In, .str a, .str b => some (!(Builtin.Str.occurrences b a 0 b.length 1).isEmpty)
  | .NotIn, .str a, .str b => some (Builtin.Str.occurrences b a 0 b.length 1).isEmpty
  | _, _, _ => none
def truD (x : D) : Option Bool := match x with
  | .non => some false
  | .bl b => some b
  | .int i => some (i != 0)
  | .str z => if sz z.length then some ((z.length : Int) != 0) else none
  | .lst xs => some (!xs.isEmpty)
  | .tup xs => some (!xs.isEmpty)
  | _ => none
def intsOf : List D → Option (List Int)
  | [] => some []
  | .int i :: r => (intsOf r).map (i :: ·)
  | _ => none
def blsOf : List D → Option (List Bool)
  | [] => some []
  | .bl i :: r => (blsOf r).map (i :: ·)
  | _ => none
def strsOf : List D → Option (List Str)
  | [] => some []
  | .str i :: r => (strsOf r).map (i :: ·)
  | _ => none
def maxL (n : Int) (ns : List Int) : Int := ns.foldl max n
def tupInts : D → Option (List Int)
  | .tup ys => intsOf ys
  | _ => none
def tupsInts : List D → Option (List (List Int))
  | [] => some []
  | d :: r => match tupInts d, tupsInts r with
    | some x, some xs => some (x :: xs)
    | _, _ => none
/-- sums' sizes: the joined text -/
def joinSz (a : Str) (xs : List Str) : Bool := decide ((xs.map (·.length)).sum + xs.length * a.length ≤ 16000000)
def bi (b : BI) (xs : List D) : Option FV := match b, xs with
  | .len, [.lst ys] => some (.dat (.int ys.length))
  | .len, [.scr ys] => some (.dat (.int ys.length))
  | .len, [.tup ys] => some (.dat (.int ys.length))
  | .len, [.str z] => if sz z.length then some (.dat (.int z.length)) else none
  | .str, [.int i] => if decide (i.natAbs.log2 < 1920) then some (.dat (.str (toString i))) else none
  | .int, [.int i] => some (.dat (.int i))
  | .int, [.bl k] => some (.dat (.int (if k then 1 else 0)))
  | .int, [.str z] => if decide (z.length ≤ 640) then (PySem.intText? z).map fun n => .dat (.int n) else none
  | .list, [.lst ys] => some (.lst ys)
  | .list, [.tup ys] => some (.lst ys)
  | .tuple, [.lst ys] => some (.dat (.tup ys))
  | .tuple, [.tup ys] => some (.dat (.tup ys))
  | .sum, [.lst ys] => (intsOf ys).map fun ns => .dat (.int ns.sum)
  | .max1, [.lst ys] => match intsOf ys with
    | some (n :: ns) => some (.dat (.int (maxL n ns)))
    | _ => none
  | .maxD, [.lst ys, .int d] => match intsOf ys with
    | some (n :: ns) => some (.dat (.int (maxL n ns)))
    | some [] => some (.dat (.int d))
    | none => none
  | .sorted, [.lst ys] => match intsOf ys with
    | some ns => if decide (ns.length < 64) then some (.lst ((ns.mergeSort (fun i j => decide (i ≤ j))).map D.int)) else none
    | none => none
  | .sortedSet, [.tup ys] => match intsOf ys with
    | some ns => if decide (ns.length < 64) then some (.lst ((ns.eraseDups.mergeSort (fun i j => decide (i ≤ j))).map D.int)) else none
    | none => none
  | .lenSet, [.lst ys] => match strsOf ys with
    | some ns => if decide (ns.length < 64) then some (.dat (.int (ns.eraseDups.length : Nat))) else none
    | none => none
  | .lenSetT, [.lst ys] => match tupsInts ys with
    | some ns => if decide (ns.length < 64) && decide ns.Nodup then some (.dat (.int (ns.length : Nat))) else none
    | none => none
  | .tupleK, [.lst ys] => some (.dat (.tpk ys))
  | .max1, [.tup ys] => match intsOf ys with
    | some (n :: ns) => some (.dat (.int (maxL n ns)))
    | _ => none
  | .max2, [.int i, .int j] => some (.dat (.int (if j > i then j else i)))
  | .min2, [.int i, .int j] => some (.dat (.int (if j < i then j else i)))
  | .all_, [.lst ys] => (blsOf ys).map fun bs => .dat (.bl (bs.all id))
  | .allI, [.lst ys] => (intsOf ys).map fun is => .dat (.bl (is.all (· != 0)))
  | .any_, [.lst ys] => (blsOf ys).map fun bs => .dat (.bl (bs.any id))
  | .abs, [.int i] => some (.dat (.int (if i < 0 then -i else i)))
  | .bool, [.int i] => some (.dat (.bl (i != 0)))
  | .bool, [.bl k] => some (.dat (.bl k))
  | _, _ => none
def keyD (kvs : List (D × D)) (k : D) : Option (Option D) := match kvs with
  | [] => some none
  | (.str a, v) :: r => match k with
    | .str b => if a = b then some (some v) else keyD r k
    | _ => none
  | (.int a, v) :: r => match k with
    | .int b => if a = b then some (some v) else keyD r k
    | _ => none
  | _ => none
/-- a dict's key -/
def dkey : D → Option L2.Key
  | .int i => some (.inl i)
  | .str x => some (.inr x)
  | _ => none
def dctAt (ks : List L2.Key) (ds : List D) (d : D) : Option (Option D) := (dkey d).map fun k => ((ks.zip ds).find? fun p => decide (p.1 = k)).map (·.2)
/-- the data of x, and of the items of ys, if all is plain -/
def pyIn (x : D) (ys : List D) : Option (PyData × List PyData) := match x.py, pys ys with
  | some a, some bs => if SeqAt.shaped a && SeqAt.shaped (.list bs) then some (a, bs) else none
  | _, _ => none
def cntD (x : D) (ys : List D) : Option Nat := (pyIn x ys).map fun p => p.2.countP fun z => PyData.eqv z p.1
/-- where x stands first in ys -/
def idxD (x : D) (ys : List D) : Option Nat := (pyIn x ys).bind fun p => p.2.findIdx? fun z => PyData.eqv z p.1
def bm (b : BM) (o : D) (xs : List D) : Option FV := match b, o, xs with
  | .join, .str a, [.lst ys] => match strsOf ys with
    | some zs => if joinSz a zs then some (.dat (.str (Txt.join a zs))) else none
    | none => none
  | .split, .str a, [.str b] => if !(b.length == 0) && sz (a.length + 2) then some (.lst ((Txt.split a b).map D.str)) else none
  | .partition, .str a, [.str b] => if !(b.length == 0) && sz a.length then some (.dat (.tup [.str (Txt.partition a b).1, .str (Txt.partition a b).2.1, .str (Txt.partition a b).2.2])) else none
  | .upper, .str a, [] => if decide (a.length ≤ 5592405) then some (.dat (.str (Txt.upper a))) else none
  | .index, .lst ys, [x] => (idxD x ys).map fun j => .dat (.int j)
  | .indexK, .tup ys, [x] => (idxD x ys).map fun j => .dat (.int j)
  | .countK, .tpk ys, [x] => (cntD x ys).map fun j => .dat (.int j)
  | .indexT, .tpk ys, [x] => (idxD x ys).map fun j => .dat (.int j)
  | .count, .lst ys, [x] => (cntD x ys).map fun j => .dat (.int j)
  | .bitLength, .int i, [] => some (.dat (.int (Builtin.Int.intBits i : Nat)))
  | _, _, _ => none
/-- a list's method that changes it: its answer, the list behind it -/
def mmF (m : MM) (ds : List D) (xs : List D) : Option (D × List D) := match m, xs with
  | .append, [x] => if sz (ds.length + 1) then some (.non, ds ++ [x]) else none
  | .pop, [] => match ds[ds.length - 1]? with
    | some y => some (y, ds.dropLast)
    | none => none
  | .popAt, [.int i] => if decide (0 ≤ i) && decide (i.natAbs < 2 ^ 63) then (match ds[i.toNat]? with
    | some y => some (y, ds.eraseIdx i.toNat)
    | none => none) else none
  | .clear, [] => some (.non, [])
  | .reverse, [] => some (.non, ds.reverse)
  | .remove, [.int k] => match intsOf ds with
    | some ns => (ns.findIdx? fun n => n == k).map fun j => (.non, ds.eraseIdx j)
    | none => none
  | .extend, [.lst es] => if sz (ds.length + es.length) then some (.non, ds ++ es) else none
  | _, _ => none
def ixD (x y : D) : Option D := match x, y with
  | .lst ds, .int i => atI ds i
  | .tup ds, .int i => atI ds i
  | .scr ds, .int i => atI ds i
  | .str z, .int i => if sz z.length then (atI z.cps.toList i).map fun c => .str ⟨#[c]⟩ else none
  | _, _ => none
def cutD (xs : List D) (lo hi : Option Int) : List D := (xs.drop (HT.sIx xs.length 0 lo)).take (HT.sIx xs.length xs.length hi - HT.sIx xs.length 0 lo)
def slD (x : D) (lo hi : Option Int) : Option FV := match x with
  | .lst ds => some (.lst (cutD ds lo hi))
  | .tup ds => some (.dat (.tup (cutD ds lo hi)))
  | .scr ds => some (.lst (cutD ds lo hi))
  | .str z => if sz z.length then some (.dat (.str (cutS z lo hi))) else none
  | _ => none
def tyD : D → Option String
  | .non => some "NoneType"
  | .bl _ => some "bool"
  | .int _ => some "int"
  | .str _ => some "str"
  | .tup _ => some "tuple"
  | .lst _ => some "list"
  | .tpk _ => some "tuple"
  | .scr _ => some "list"
  | .dct _ _ => some "dict"
  | _ => none
/-- the answers: of a value of a built-in type, of an instance, of an exception -/
def baseAns (n : String) : Ty → Bool
  | .bt m => n == m || (n == "bool" && m == "int")
  | _ => false
def insAns (c : Nat) : Ty → Bool
  | .cls _ subs => subs.contains c
  | _ => false
def excAns (c : Nat) : Ty → Bool
  | .exc _ subs => subs.contains c
  | .bt m => m == "ValueError"
  | _ => false
def isiD (x : D) (t : Ty) : Option Bool := match x with
  | .ins c _ => some (insAns c t)
  | .exc c [] => some (excAns c t)
  | .exc _ _ => none
  | x => (tyD x).map fun n => baseAns n t

/-! ### what the code comes to -/
/-- items of a walk; a list that stands still -/
def itemsOf : D → Option (List D)
  | .lst ds => some ds
  | .scr ds => some ds
  | .tup ds => some ds
  | .tpk ds => some ds
  | .str z => if sz z.length then some (z.cps.toList.map fun c => .str ⟨#[c]⟩) else none
  | _ => none
def rngOk (i j : Int) : Bool := decide (i.natAbs < 2 ^ 62) && decide (j.natAbs < 2 ^ 62)
def rngD (lo : Int) (n : Nat) (c : Int) : List D := (List.range n).map fun (i : Nat) => .int (lo + i * c)
def enumD : Nat → List D → List D
  | _, [] => []
  | k, d :: r => .tup [.int k, d] :: enumD (k + 1) r
def zipD : List D → List D → List D
  | x :: xs, y :: ys => .tup [x, y] :: zipD xs ys
  | _, _ => []
mutual
def asgT : Tg → D → M Unit
  | .nm i, d => fun ρ => .ok () (ρ.set i (some (.dat d)))
  | .tp ts, d => match d with
    | .tup ds => asgTs ts ds
    | _ => fun _ => .stuck
def asgTs : List Tg → List D → M Unit
  | [], [] => M.ret ()
  | t :: ts, d :: ds => (asgT t d).bnd fun _ => asgTs ts ds
  | _, _ => fun _ => .stuck
end
/-- what a call is handed -/
def arOf (r : R) : M Ar := match r with
  | .val (.dat d) => M.ret (.dat d)
  | .val (.lst ds) => M.ret (.tmp ds)
  | .slot i => fun ρ => match ρ[i]? with
    | some (some (.fv (.dat d))) => .ok (.dat d) ρ
    | some (some _) => .ok (.own i) ρ
    | _ => .stuck
def Ar.get (ρ : En) : Ar → Option SV
  | .dat d => some (.dat d)
  | .tmp ds => some (.lst ds)
  | .inst c => some (.ins c [])
  | .own i => match ρ[i]? with
    | some (some x) => some x
    | _ => none
def ownsOf : List Ar → List Nat
  | [] => []
  | .own i :: r => i :: ownsOf r
  | _ :: r => ownsOf r
def svsOf (ρ : En) : List Ar → Option (List SV)
  | [] => some []
  | a :: r => match a.get ρ, svsOf ρ r with
    | some x, some xs => some (x :: xs)
    | _, _ => none
def backTo : List Ar → List SV → En → En
  | .own i :: r, x :: xs, ρ => backTo r xs (ρ.set i (some x))
  | _ :: r, _ :: xs, ρ => backTo r xs ρ
  | _, _, ρ => ρ
def callF (F : Fn) (as : List Ar) : M R := fun ρ => match svsOf ρ as with
  | some xs => if (ownsOf as).Nodup then (match F xs with
    | .ok x ys => if ys.length = xs.length then .ok (.val x) (Dv.backTo as ys ρ) else .stuck
    | .exc e ys => if ys.length = xs.length then .exc e (Dv.backTo as ys ρ) else .stuck
    | .stuck => .stuck) else .stuck
  | none => .stuck
/-- a new instance of a class whose instances are frozen when they are made -/
def makeF (F : Fn) (c n : Nat) (as : List Ar) : M R := fun ρ => match svsOf ρ as with
  | some xs => if (ownsOf as).Nodup then (match F (.ins c [] :: xs) with
    | .ok (.dat .non) (.ins c' ds :: ys) => if c' = c ∧ ys.length = xs.length ∧ ds.length = n then .ok (.val (.dat (.ins c ds))) (Dv.backTo as ys ρ) else .stuck
    | .exc e (_ :: ys) => if ys.length = xs.length then .exc e (Dv.backTo as ys ρ) else .stuck
    | _ => .stuck) else .stuck
  | none => .stuck
def wipeE (ρ : En) : List Nat → En
  | [] => ρ
  | i :: is => (wipeE ρ is).set i none
/-- no slot of these owns anything -/
def frozenAt (ρ : En) (is : List Nat) : Bool := is.all fun i => match ρ[i]? with
  | some (some (.fv (.dat _))) => true
  | some none => true
  | _ => false
def restore (ρ0 : En) : List Nat → En → En
  | [], ρ => ρ
  | i :: is, ρ => (restore ρ0 is ρ).set i ((ρ0[i]?).getD none)
/-- nothing raised gets out -/
def M.noEx {α : Type} (m : M α) : M α := fun ρ => match m ρ with
  | .ok a ρ' => .ok a ρ'
  | _ => .stuck
def lcGo (own : List Nat) (body : D → M (Option D)) : List D → List D → M (List D)
  | [], acc => M.ret acc
  | x :: xs, acc => fun ρ => (body x).bnd (fun o => match o with
    | some d => if sz (acc.length + 1) then lcGo own body xs (acc ++ [d]) else fun _ => .stuck
    | none => lcGo own body xs acc) (wipeE ρ own)
def getAllM (rs : List R) : M (List FV) := fun ρ => M.opt (getAll rs ρ) ρ
def zip4D : List D → List D → List D → List D → List D
  | x :: xs, y :: ys, z :: zs, u :: us => .tup [x, y, z, u] :: zip4D xs ys zs us
  | _, _, _, _ => []
/-- walked without being frozen: slot i's list, out of reach meanwhile -/
def lendOf : CI → Option Nat
  | .slot i => some i
  | _ => none
def lendM {α : Type} (i : Nat) (k : List D → M α) : M α := fun ρ => match ρ[i]? with
  | some (some (.fv (.lst ds))) => (match k ds (ρ.set i none) with
    | .ok a ρ' => .ok a (ρ'.set i (some (.lst ds)))
    | .exc e ρ' => .exc e (ρ'.set i (some (.lst ds)))
    | .stuck => .stuck)
  | some (some (.fv (.dat d))) => (match itemsOf d with
    | some ds => k ds ρ
    | none => .stuck)
  | _ => .stuck
def withIt {α : Type} (it : CI) (m : M (List D)) (k : List D → M α) : M α := match lendOf it with
  | some i => lendM i k
  | none => m.bnd k
def asBl (x : FV) : Option Bool := match x with
  | .dat (.bl b) => some b
  | _ => none
def asInt (x : FV) : Option Int := match x with
  | .dat (.int b) => some b
  | _ => none
def valR (x : FV) : R := .val x
/-- a list's changing method at what has been come to -/
def mmR (m : MM) (r : R) (xs : List D) : M R := match r with
  | .val (.lst ds) => fun ρ => (match mmF m ds xs with
      | some p => .ok (.val (.dat p.1)) ρ
      | none => .stuck)
  | .val (.dat _) => fun _ => .stuck
  | .slot i => fun ρ => match ρ[i]? with
    | some (some (.fv (.lst ds))) => (match mmF m ds xs with
      | some p => .ok (.val (.dat p.1)) (ρ.set i (some (.lst p.2)))
      | none => .stuck)
    | _ => .stuck

def isLst : FV → Bool
  | .lst _ => true
  | _ => false
/-- the receiver of a method is of its type -/
def bmTy (b : BM) (d : D) : Bool := match b, d with
  | .join, .str _ | .split, .str _ | .partition, .str _ | .upper, .str _ | .index, .lst _ | .indexK, .tup _ | .count, .lst _ | .countK, .tpk _ | .indexT, .tpk _ | .bitLength, .int _ => true
  | _, _ => false
/-- a name that has been stored -/
def varM (i : Nat) : M R := fun ρ => match ρ[i]? with
  | some (some _) => .ok (.slot i) ρ
  | _ => .stuck
section
variable (Φ : Nat → Fn)
mutual
def ev : CE → M R
  | .var i => varM i
  | .lit d => M.ret (.val (.dat d))
  | .glo _ d => M.ret (.val (.dat d))
  | .bin o a b => (ev a).bnd fun r => (ev b).bnd fun q => (getM r).bnd fun x => (getM q).bnd fun y => (M.opt (bo o x.frz y.frz)).bnd fun z => M.ret (.val z)
  | .un o a => (ev a).bnd fun r => (getM r).bnd fun x => (M.opt (uo o x.frz)).bnd fun z => M.ret (.val z)
  | .cmp o a b => (ev a).bnd fun r => (ev b).bnd fun q => (getM r).bnd fun x => (getM q).bnd fun y => (M.opt (co o x.frz y.frz)).bnd fun z => M.ret (.val (.dat (.bl z)))
  | .cm2 o p a b c => (ev a).bnd fun r => (ev b).bnd fun q => (getM r).bnd fun x => (getM q).bnd fun y => (M.opt (co o x.frz y.frz)).bnd fun z =>
    if z then (ev c).bnd fun u => (getM q).bnd fun y' => (getM u).bnd fun v => (M.opt (co p y'.frz v.frz)).bnd fun z' => M.ret (.val (.dat (.bl z'))) else M.ret (.val (.dat (.bl false)))
  | .ands es => evAnd es
  | .ors es => evOr es
  | .nt a => (ev a).bnd fun r => (getM r).bnd fun x => (M.opt (asBl x)).bnd fun b => M.ret (.val (.dat (.bl (!b))))
  | .ite c a b => (evT c).bnd fun k => if k then ev a else ev b
  | .tup es => (evD es).bnd fun ds => if sz ds.length then M.ret (.val (.dat (.tup ds))) else fun _ => .stuck
  | .tpk es => (evD es).bnd fun ds => if sz ds.length then M.ret (.val (.dat (.tpk ds))) else fun _ => .stuck
  | .lst es => (evD es).bnd fun ds => if sz ds.length then M.ret (.val (.lst ds)) else fun _ => .stuck
  | .ix a b => (ev a).bnd fun r => (ev b).bnd fun q => (getM r).bnd fun x => (getM q).bnd fun y => (M.opt (ixD x.frz y.frz)).bnd fun z => M.ret (.val (.dat z))
  | .slc a lo hi => (ev a).bnd fun r => (evO lo).bnd fun l => (evO hi).bnd fun h => (getM r).bnd fun x => (M.opt (slD x.frz l h)).bnd fun z => M.ret (.val z)
  | .slr a => (ev a).bnd fun r => (getM r).bnd fun x => match x.frz with
    | .lst ds => M.ret (.val (.lst ds.reverse))
    | _ => fun _ => .stuck
  | .fld _ tb a => (ev a).bnd fun r => (getM r).bnd fun x => match x with
    | .dat (.ins c ds) => (M.opt ((tb.lookup c).bind fun k => ds[k]?)).bnd fun z => M.ret (.val (.dat z))
    | _ => fun _ => .stuck
  | .call f es => (evA es).bnd fun as => callF (Φ f) as
  | .mk c n f es => (evA es).bnd fun as => makeF (Φ f) c n as
  | .meth _ tb o es => (ev o).bnd fun r => (getM r).bnd fun x => match x with
    | .dat (.ins c ds) => (M.opt (tb.lookup c)).bnd fun f => (evA es).bnd fun as => callF (Φ f) (.dat (.ins c ds) :: as)
    | _ => fun _ => .stuck
  | .bc b es => (evR es).bnd fun rs => (getAllM rs).bnd fun xs => (M.opt (bi b (xs.map FV.frz))).bnd fun z => M.ret (.val z)
  | .bm b o es => (ev o).bnd fun r => (getM r).bnd fun x0 => if bmTy b x0.frz then (evR es).bnd fun rs => (getM r).bnd fun x => (getAllM rs).bnd fun xs => (M.opt (bm b x.frz (xs.map FV.frz))).bnd fun z => M.ret (.val z) else fun _ => .stuck
  | .mm m o es => (ev o).bnd fun r => (getM r).bnd fun x0 => if isLst x0 then (evD es).bnd fun xs => mmR m r xs else fun _ => .stuck
  | .lc own g it c e => withIt it (evI it) fun items => fun ρ => if frozenAt ρ own then
      (match (lcGo own (fun d => (asgT g d).bnd fun _ => (evC c).bnd fun k => if k then ((ev e).bnd takeM).bnd fun x => M.ret (some x) else M.ret none) items []) ρ with
      | .ok acc ρ' => .ok (.val (.lst acc)) (restore ρ own ρ')
      | _ => .stuck) else .stuck
  | .dget kvs k d => (ev k).bnd fun r => (ev d).bnd fun q => (getM r).bnd fun x => (getM q).bnd fun y => (M.opt (keyD kvs x.frz)).bnd fun o => match o with
    | some v => M.ret (.val (.dat v))
    | none => match y with
      | .dat d => M.ret (.val (.dat d))
      | _ => fun _ => .stuck
  | .dix kvs k => (ev k).bnd fun r => (getM r).bnd fun x => (M.opt ((keyD kvs x.frz).bind id)).bnd fun v => M.ret (.val (.dat v))
  | .itl b it => (evI it).bnd fun ds => if sz ds.length then (if b then M.ret (.val (.lst ds)) else M.ret (.val (.dat (.tup ds)))) else fun _ => .stuck
  | .dsp kvs => M.ret (.val (.dat (.dct (kvs.map fun p => (dkey p.1).getD (.inl 0)) (kvs.map (·.2)))))
  | .dgt o k d => (ev o).bnd fun r => (getM r).bnd fun x => match x with
    | .dat (.dct ks ds) => (ev k).bnd fun q => (ev d).bnd fun u => (getM q).bnd fun y => (getM u).bnd fun z => (M.opt (dctAt ks ds y.frz)).bnd fun o => match o with
      | some v => M.ret (.val (.dat v))
      | none => match z with
        | .dat d => M.ret (.val (.dat d))
        | _ => fun _ => .stuck
    | _ => fun _ => .stuck
  | .dg1 o k => (ev o).bnd fun r => (getM r).bnd fun x => match x with
    | .dat (.dct ks ds) => (ev k).bnd fun q => (getM q).bnd fun y => (M.opt (dctAt ks ds y.frz)).bnd fun o => match o with
      | some v => M.ret (.val (.dat v))
      | none => M.ret (.val (.dat .non))
    | _ => fun _ => .stuck
  | .dxv o k => (ev o).bnd fun r => (ev k).bnd fun q => (getM r).bnd fun x => (getM q).bnd fun y => match x with
    | .dat (.dct ks ds) => (M.opt ((dctAt ks ds y.frz).bind id)).bnd fun v => M.ret (.val (.dat v))
    | _ => fun _ => .stuck
  | .din b k o => (ev k).bnd fun q => (ev o).bnd fun r => (getM q).bnd fun y => (getM r).bnd fun x => match x with
    | .dat (.dct ks ds) => (M.opt (dctAt ks ds y.frz)).bnd fun o => M.ret (.val (.dat (.bl (o.isSome == b))))
    | _ => fun _ => .stuck
  | .isi a t => (ev a).bnd fun r => (getM r).bnd fun x => (M.opt (isiD x.frz t)).bnd fun z => M.ret (.val (.dat (.bl z)))
def evAnd : CEs → M R
  | .nil => fun _ => .stuck
  | .cons e .nil => ev e
  | .cons e es => (ev e).bnd fun r => (getM r).bnd fun x => (M.opt (asBl x)).bnd fun b => if b then evAnd es else M.ret (.val (.dat (.bl false)))
def evOr : CEs → M R
  | .nil => fun _ => .stuck
  | .cons e .nil => ev e
  | .cons e es => (ev e).bnd fun r => (getM r).bnd fun x => (M.opt (truD x.frz)).bnd fun b => if b then M.ret r else evOr es
def evR : CEs → M (List R)
  | .nil => M.ret []
  | .cons e es => (ev e).bnd fun r => (evR es).bnd fun rs => M.ret (r :: rs)
def evD : CEs → M (List D)
  | .nil => M.ret []
  | .cons e es => ((ev e).bnd takeM).bnd fun d => (evD es).bnd fun ds => M.ret (d :: ds)
def evA : CEs → M (List Ar)
  | .nil => M.ret []
  | .cons e es => ((ev e).bnd arOf).bnd fun a => (evA es).bnd fun as => M.ret (a :: as)
def evO : CO → M (Option Int)
  | .no => M.ret none
  | .yes e => (ev e).bnd fun r => (getM r).bnd fun x => (M.opt (asInt x)).bnd fun i => M.ret (some i)
def evT : CT → M Bool
  | .val e => (ev e).bnd fun r => (getM r).bnd fun x => M.opt (truD x.frz)
  | .cmp o a b => (ev a).bnd fun r => (ev b).bnd fun q => (getM r).bnd fun x => (getM q).bnd fun y => M.opt (co o x.frz y.frz)
  | .cm2 o p a b c => (ev a).bnd fun r => (ev b).bnd fun q => (getM r).bnd fun x => (getM q).bnd fun y => (M.opt (co o x.frz y.frz)).bnd fun z =>
    if z then (ev c).bnd fun u => (getM q).bnd fun y' => (getM u).bnd fun v => M.opt (co p y'.frz v.frz) else M.ret false
  | .ands ts => evTA ts
  | .ors ts => evTO ts
  | .nt t => (evT t).bnd fun b => M.ret (!b)
  | .din b k o => (ev k).bnd fun q => (ev o).bnd fun r => (getM q).bnd fun y => (getM r).bnd fun x => match x with
    | .dat (.dct ks ds) => (M.opt (dctAt ks ds y.frz)).bnd fun o => M.ret (o.isSome == b)
    | _ => fun _ => .stuck
def evTA : CTs → M Bool
  | .nil => M.ret true
  | .cons t ts => (evT t).bnd fun b => if b then evTA ts else M.ret false
def evTO : CTs → M Bool
  | .nil => M.ret false
  | .cons t ts => (evT t).bnd fun b => if b then M.ret true else evTO ts
def evC : CTs → M Bool
  | .nil => M.ret true
  | .cons t _ => evT t
def evI : CI → M (List D)
  | .slot _ => fun _ => .stuck
  | .seq e => ((ev e).bnd takeM).bnd fun d => M.opt (itemsOf d)
  | .rng1 a => (ev a).bnd fun r => (getM r).bnd fun x => (M.opt (asInt x)).bnd fun j => if rngOk 0 j then M.ret (rngD 0 j.toNat 1) else fun _ => .stuck
  | .rng2 a b => (ev a).bnd fun r => (ev b).bnd fun q => (getM r).bnd fun x => (getM q).bnd fun y => (M.opt (asInt x)).bnd fun i => (M.opt (asInt y)).bnd fun j => if rngOk i j then M.ret (rngD i (j - i).toNat 1) else fun _ => .stuck
  | .rng3 a b c => (ev a).bnd fun r => (ev b).bnd fun q => (ev c).bnd fun u => (getM r).bnd fun x => (getM q).bnd fun y => (getM u).bnd fun z => (M.opt (asInt x)).bnd fun i => (M.opt (asInt y)).bnd fun j => (M.opt (asInt z)).bnd fun c =>
    if decide (0 < c) && (decide (c.natAbs < 1073741824) && Builtin.Range.small i j c) then M.ret (rngD i (Builtin.Range.rangeSize i j c).toNat c) else fun _ => .stuck
  | .enum e => ((ev e).bnd takeM).bnd fun d => match d with
    | .lst ds => M.ret (enumD 0 ds)
    | _ => fun _ => .stuck
  | .zip2 a b => ((ev a).bnd takeM).bnd fun d => ((ev b).bnd takeM).bnd fun f => match d, f with
    | .lst xs, .lst ys => M.ret (zipD xs ys)
    | .tup xs, .tup ys => M.ret (zipD xs ys)
    | _, _ => fun _ => .stuck
  | .zipM a b => ((ev a).bnd takeM).bnd fun d => ((ev b).bnd takeM).bnd fun f => match d, f with
    | .lst xs, .lst ys => M.ret (zipD xs ys)
    | .tup xs, .tup ys => M.ret (zipD xs ys)
    | .tup xs, .lst ys => M.ret (zipD xs ys)
    | _, _ => fun _ => .stuck
  | .rev e => ((ev e).bnd takeM).bnd fun d => match d with
    | .lst ds => M.ret ds.reverse
    | .tup ds => M.ret ds.reverse
    | _ => fun _ => .stuck
  | .zip4 a b c d => ((ev a).bnd takeM).bnd fun d1 => ((ev b).bnd takeM).bnd fun d2 => ((ev c).bnd takeM).bnd fun d3 => ((ev d).bnd takeM).bnd fun d4 => match d1, d2, d3, d4 with
    | .tup xs, .tup ys, .tup zs, .tup us => M.ret (zip4D xs ys zs us)
    | _, _, _, _ => fun _ => .stuck
  | .enzip a b => ((ev a).bnd takeM).bnd fun d => ((ev b).bnd takeM).bnd fun f => match d, f with
    | .tup xs, .tup ys => M.ret (enumD 0 (zipD xs ys))
    | _, _ => fun _ => .stuck
end
end
end Dv
end
section
set_option Elab.async false
set_option maxRecDepth 100000
set_option linter.all false
namespace Dv
open PySem PySem.Spec L2
/-- what is given back: a list of the def's own goes with it -/
def giveM (np : Nat) (r : R) : M FV := match r with
  | .val x => M.ret x
  | .slot i => fun ρ => match ρ[i]? with
    | some (some (.fv (.dat d))) => .ok (.dat d) ρ
    | some (some (.fv (.lst ds))) => if i < np then .ok (.dat (.lst ds)) (ρ.set i (some (.dat (.lst ds)))) else .ok (.lst ds) (ρ.set i none)
    | _ => .stuck
def asgEach : List Nat → List D → M Unit
  | [], [] => M.ret ()
  | i :: is, d :: ds => fun ρ => asgEach is ds (ρ.set i (some (.dat d)))
  | _, _ => fun _ => .stuck
/-- op=: of ints and texts -/
def ibo (o : Operator) (x y : D) : Option FV := match o with
  | .Pow => none
  | _ => bo o x y
/-- slot i op= y -/
def augM (i : Nat) (o : Operator) (q : R) : M Unit := fun ρ => match getSlot ρ i, q.get ρ with
  | some (.lst xs), some y => (match o, y.frz with
    | .Add, .lst ys => if sz (xs.length + ys.length) then .ok () (ρ.set i (some (.lst (xs ++ ys)))) else .stuck
    | _, _ => .stuck)
  | some (.dat (.int a)), some y => (match y.frz with
    | .int b => (match ibo o (.int a) (.int b) with
      | some z => .ok () (ρ.set i (some (.fv z)))
      | none => .stuck)
    | _ => .stuck)
  | some (.dat (.str a)), some y => (match y.frz with
    | .str b => (match ibo o (.str a) (.str b) with
      | some z => .ok () (ρ.set i (some (.fv z)))
      | none => .stuck)
    | _ => .stuck)
  | _, _ => .stuck
/-- slot i [j] = d -/
def setAt (i : Nat) (j : Int) (d : D) : M Unit := fun ρ => match ρ[i]? with
  | some (some (.fv (.lst ds))) => (match ixN ds.length j with
    | some k => .ok () (ρ.set i (some (.lst (ds.set k d))))
    | none => .stuck)
  | _ => .stuck
/-- what is known of a tuple's object is dropped -/
def fgt : D → D
  | .tpk ds => .tup ds
  | d => d
def fsetM (i : Nat) (tb : List (Nat × Nat)) (d : D) : M Unit := fun ρ => match ρ[i]? with
  | some (some (.ins c ds)) => (match tb.lookup c with
    | some k => if k = ds.length then .ok () (ρ.set i (some (.ins c (ds ++ [fgt d])))) else if k < ds.length then .ok () (ρ.set i (some (.ins c (ds.set k (fgt d))))) else .stuck
    | none => .stuck)
  | _ => .stuck
/-- the same, and what is known of a tuple's object is kept -/
def fsetKM (i : Nat) (tb : List (Nat × Nat)) (d : D) : M Unit := fun ρ => match ρ[i]? with
  | some (some (.ins c ds)) => (match tb.lookup c with
    | some k => if k = ds.length then .ok () (ρ.set i (some (.ins c (ds ++ [d])))) else if k < ds.length then .ok () (ρ.set i (some (.ins c (ds.set k d)))) else .stuck
    | none => .stuck)
  | _ => .stuck
/-- a loop over items -/
def forGo (g : Tg) (body : M Fl) : List D → M Fl
  | [] => M.ret .nx
  | x :: xs => (asgT g x).bnd fun _ => body.bnd fun f => match f with
    | .nx => forGo g body xs
    | .ct => forGo g body xs
    | .bk => M.ret .nx
    | .rt y => M.ret (.rt y)
/-- a while loop of at most n turns -/
def whlGo (test : M Bool) (body : M Fl) : Nat → M Fl
  | 0 => fun _ => .stuck
  | n + 1 => test.bnd fun b => if b then body.bnd fun f => match f with
    | .nx => whlGo test body n
    | .ct => whlGo test body n
    | .bk => M.ret .nx
    | .rt y => M.ret (.rt y) else M.ret .nx
/-- more turns than any loop takes -/
def fuel : Nat := 1000000000000
def catchAs (m : M Fl) (subs : List Nat) (i j : Nat) : M Fl := fun ρ => match m ρ with
  | .exc e ρ' => if subs.contains e.c then .ok .nx ((ρ'.set j (some (.dat (.exc e.c e.ds)))).set i none) else .exc e ρ'
  | o => o
def catchTo (m : M Fl) (subs : List Nat) (s : M Fl) : M Fl := fun ρ => match m ρ with
  | .exc e ρ' => if subs.contains e.c then s ρ' else .exc e ρ'
  | o => o
/-- slot i [j] = old op b -/
def augV (i : Nat) (j : Int) (o : Operator) (old b : D) : M Fl := match old, b with
  | .int a, .int b => (M.opt (ibo o (.int a) (.int b))).bnd fun v => (setAt i j v.frz).bnd fun _ => M.ret .nx
  | _, _ => fun _ => .stuck
section
variable (Φ : Nat → Fn) (np : Nat)
mutual
def evS : CS → M Fl
  | .expr e => (ev Φ e).bnd fun _ => M.ret .nx
  | .ret e => ((ev Φ e).bnd (giveM np)).bnd fun x => M.ret (.rt x)
  | .retN => M.ret (.rt (.dat .non))
  | .pass => M.ret .nx
  | .brk => M.ret .bk
  | .cont => M.ret .ct
  | .set i e => ((ev Φ e).bnd (storeM i)).bnd fun _ => M.ret .nx
  | .setT g e => (((ev Φ e).bnd takeM).bnd (asgT g)).bnd fun _ => M.ret .nx
  | .par is es => ((evD Φ es).bnd (asgEach is)).bnd fun _ => M.ret .nx
  | .aug i o e => (varM i).bnd fun _ => ((ev Φ e).bnd (augM i o)).bnd fun _ => M.ret .nx
  | .setIx i ix e => ((ev Φ e).bnd takeM).bnd fun d => (varM i).bnd fun _ => (ev Φ ix).bnd fun q => (getM q).bnd fun x => (M.opt (asInt x)).bnd fun j => (setAt i j d).bnd fun _ => M.ret .nx
  | .augIx i ix o e => (varM i).bnd fun _ => (ev Φ ix).bnd fun q => (getM q).bnd fun x => (M.opt (asInt x)).bnd fun j => (getM (.slot i)).bnd fun y => if isLst y then (M.opt (ixD y.frz (.int j))).bnd fun old =>
    (ev Φ e).bnd fun r => (getM r).bnd fun z => augV i j o old z.frz else fun _ => .stuck
  | .fset i _ tb e => ((ev Φ e).bnd takeM).bnd fun d => (varM i).bnd fun _ => (fsetM i tb d).bnd fun _ => M.ret .nx
  | .fsetK i _ tb e => ((ev Φ e).bnd takeM).bnd fun d => (varM i).bnd fun _ => (fsetKM i tb d).bnd fun _ => M.ret .nx
  | .iff t a b => (evT Φ t).bnd fun k => if k then evSs a else evSs b
  | .whl t b => whlGo (evT Φ t) (evSs b) fuel
  | .for_ g it b => withIt it (evI Φ it) fun items => forGo g (evSs b) items
  | .raise c => fun ρ => .exc ⟨c, []⟩ ρ
  | .raiseN c e => ((ev Φ e).bnd takeM).bnd fun d ρ => .exc ⟨c, [d]⟩ ρ
  | .tryAs b _ subs i j => catchAs (evSs b) subs i j
  | .tryOnly b _ subs i e => catchTo (evSs b) subs (((ev Φ e).bnd (storeM i)).bnd fun _ => M.ret .nx)
  | .superInit _ _ _ => fun _ => .stuck
def evSs : CSs → M Fl
  | .nil => M.ret .nx
  | .cons s ss => (evS s).bnd fun f => match f with
    | .nx => evSs ss
    | f => M.ret f
end
end
/-- a def: how many parameters, how many names, the parameters that are stored to, the body -/
structure CF where
  np : Nat
  n : Nat
  asg : List Nat
  body : CSs
def isOwn : SV → Bool
  | .fv (.dat _) => false
  | _ => true
/-- what the arguments are at the entry -/
def entry (asg : List Nat) : Nat → List SV → List SV
  | _, [] => []
  | i, x :: xs => (if asg.contains i then (match x with
    | .fv y => SV.dat y.frz
    | x => x) else x) :: entry asg (i + 1) xs
/-- no instance of one's own at a place that is stored to -/
def entryOk (asg : List Nat) : Nat → List SV → Bool
  | _, [] => true
  | i, x :: xs => (!(asg.contains i) || (match x with
    | .fv _ => true
    | _ => false)) && entryOk asg (i + 1) xs
/-- what they are at the end -/
def exitA (asg : List Nat) (ρ : En) : Nat → List SV → Option (List SV)
  | _, [] => some []
  | i, x :: xs => match (if isOwn x && !(asg.contains i) then (match ρ[i]? with
    | some (some y) => some y
    | _ => none) else some x), exitA asg ρ (i + 1) xs with
    | some y, some ys => some (y :: ys)
    | _, _ => none
def fnOf (Φ : Nat → Fn) (c : CF) : Fn := fun xs =>
  if xs.length = c.np ∧ entryOk c.asg 0 xs = true then
    match evSs Φ c.np c.body ((entry c.asg 0 xs).map some ++ List.replicate (c.n - c.np) none) with
    | .ok (.rt x) ρ => (match exitA c.asg ρ 0 (entry c.asg 0 xs) with
      | some ys => .ok x ys
      | none => .stuck)
    | .ok .nx ρ => (match exitA c.asg ρ 0 (entry c.asg 0 xs) with
      | some ys => .ok (.dat .non) ys
      | none => .stuck)
    | .exc e ρ => (match exitA c.asg ρ 0 (entry c.asg 0 xs) with
      | some ys => .exc e ys
      | none => .stuck)
    | _ => .stuck
  else .stuck
end Dv
namespace Dv
/-- what a def comes to, its calls at most n deep -/
def phi (code : Nat → Option CF) : Nat → Nat → Fn
  | 0, _ => fun _ => .stuck
  | n + 1, f => match code f with
    | some c => fnOf (phi code n) c
    | none => fun _ => .stuck
end Dv
end
section
set_option Elab.async false
set_option maxRecDepth 100000
set_option linter.all false
/-! What the head's look is made of -/
namespace Dv
open PySem PySem.Spec PyProof.Rows L2
/-- the class that isinstance is asked about -/
def askU (T : Tb) : Ty → Value
  | .bt n => .type n
  | .cls c _ => .ref (T.ca c)
  | .exc c _ => .ref (T.ea c)
def baseNs : List String := ["NoneType", "bool", "int", "str", "tuple", "list", "dict"]
/-- what is written down of the module -/
structure Sta where
  fn : List (Nat × (Str × Option Str))
  cls : List (Str × List Str)
  exs : List Str
  glo : List (Str × Dv.D)
  meth : List (Nat × Str × Nat)
  init : List (Nat × Nat)
  tys : List Ty
  exm : List (Nat × List Nat)
  free : List Str
  up : List (Nat × Nat)
/-- what stands in the text for a def -/
structure Df where
  name : Str
  qual : Str
  params : Arguments
  body : List Stmt
  scope : Scope
  N : List Str
  ps : List Str
def clsN (S : Sta) (c : Nat) : Str := match S.cls[c]? with
  | some p => p.1
  | none => ""
def exsN (S : Sta) (c : Nat) : Str := match S.exs[c]? with
  | some p => p
  | none => ""
def tbOf (S : Sta) (K : PySem.W.Frag) : Tb where
  K := K
  ca := fun c => He.ga K (clsN S c)
  fl := fun c => match S.cls[c]? with
    | some p => p.2
    | none => []
  ea := fun c => He.ga K (exsN S c)
  xf := fun _ => []
  nc := S.cls.length
  ne := S.exs.length
def faOf (S : Sta) (K : PySem.W.Frag) (f : Nat) : Addr := match S.fn.lookup f with
  | some p => He.fAd K p
  | none => 0
def vOf : Dv.D → Option V
  | .non => some .non
  | .bl b => some (.bl b)
  | .int i => some (.int i)
  | .str x => some (.str x)
  | _ => none
def vsOf : List Dv.D → Option (List V)
  | [] => some []
  | d :: ds => match vOf d, vsOf ds with
    | some v, some vs => some (v :: vs)
    | _, _ => none
def tupB (K : PySem.W.Frag) (a : Addr) (vs : List V) : Bool := match K.lookup a with
  | some ⟨.type c, none, .seq its _, _⟩ => decide (c = "tuple") && (decide (its.size ≤ sizeLine) && He.relAll vs its.toList)
  | _ => false
def gloB (K : PySem.W.Frag) (x : Str) (d : Dv.D) : Bool := match d with
  | .tup ds => (match vsOf ds with
    | some vs => (He.Fa.glo x).ok K && tupB K (He.ga K x) vs
    | none => false)
  | d => (match vOf d, PySem.W.nsIn K mainGlobals x with
    | some v, some (some u) => He.relB v u
    | _, _ => false)
open PySem.W in
def excCB (K : Frag) (D : Addr) : Bool :=
  decide (findIn K (.ref D) "__getattribute__" = some (some (.builtin "BaseException.__getattribute__"))) && (decide (findIn K (.ref D) "__getattr__" = some none) && (decide (subIn K (.ref D) (.type "BaseException") = some true) &&
  (hasDictIn K D && (decide (findIn K (.ref D) "__class__" = some (some (.builtin "object.__class__"))) && decide (mroIn K D (.type "object") = some true)))))
open PySem.W in
def spB (K : Frag) : Bool := decide (specialIn K (.builtin "object.__class__") "__get__" = some (some (.builtin "getset_descriptor.__get__"))) && decide (takesIn K (.builtin "object.__class__") = some true)
def tyU (S : Sta) (K : PySem.W.Frag) (t : Ty) : Value := askU (tbOf S K) t
open PySem.W in
def tyB (S : Sta) (K : Frag) (t : Ty) : Bool :=
  (baseNs.all fun n => decide (kitOne K (.type n) (tyU S K t) = some (baseAns n t))) &&
  (((List.range S.cls.length).all fun c => decide (kitOne K (.ref (He.ga K (clsN S c))) (tyU S K t) = some (insAns c t))) &&
  ((List.range S.exs.length).all fun c => decide (kitOne K (.ref (He.ga K (exsN S c))) (tyU S K t) = some (excAns c t))))
open PySem.W in
def clsB (S : Sta) (K : Frag) (c : Nat) : Bool := (He.Fa.cls (clsN S c)).ok K && ((He.Fa.glo (clsN S c)).ok K && (((tbOf S K).fl c).all (fun f => (He.Fa.noat (clsN S c) f).ok K) &&
  (decide (findIn K (.ref (He.ga K (clsN S c))) "__class__" = some (some (.builtin "object.__class__"))) && (decide (mroIn K (He.ga K (clsN S c)) (.type "object") = some true) && decide (((tbOf S K).fl c).Nodup ∧ ((tbOf S K).fl c).length < 1000)))))
def exB (S : Sta) (K : PySem.W.Frag) (c : Nat) : Bool := (He.Fa.exc (exsN S c)).ok K && ((He.Fa.glo (exsN S c)).ok K && excCB K (He.ga K (exsN S c)))
def fnB (K : PySem.W.Frag) (p : Nat × (Str × Option Str)) : Bool := match p.2.2 with
  | none => (He.Fa.glo p.2.1).ok K && (He.Fa.keep p.2.1).ok K
  | some _ => true
def methB (S : Sta) (K : PySem.W.Frag) (p : Nat × Str × Nat) : Bool := (He.Fa.meth (clsN S p.1) p.2.1).ok K && decide (He.ma K (He.ga K (clsN S p.1)) p.2.1 = faOf S K p.2.2)
def initB (S : Sta) (K : PySem.W.Frag) (p : Nat × Nat) : Bool := (He.Fa.mkr (clsN S p.1)).ok K && decide (He.ma K (He.ga K (clsN S p.1)) "__init__" = faOf S K p.2)
open PySem.W in
def upB (S : Sta) (K : Frag) (p : Nat × Nat) : Bool := match S.fn.lookup p.2 with
  | some (_, some m) => readsIn K (He.ga K (clsN S p.1)) (.type "type") && (decide (specialIn K (.ref (He.ga K (clsN S p.1))) "__getattribute__" = some (some (.builtin "type.__getattribute__"))) &&
    ((match findCls K (.ref (He.ga K (clsN S p.1))) (.type "type") m with
      | some (.val v) => decide (v = .ref (faOf S K p.2))
      | _ => false) && keepIn K (.ref (faOf S K p.2))))
  | _ => false
open PySem.W in
def exmB (S : Sta) (K : Frag) (p : Nat × List Nat) : Bool := (List.range S.exs.length).all fun c => decide (exmOne K (.ref (He.ga K (exsN S c))) (.ref (He.ga K (exsN S p.1))) = some (p.2.contains c))
/-- reaching objects, each once: the seen ones as the bits of a number, all numbers forced -/
def oneE {α : Type} (seen : Nat) (new : List Addr) (b : Addr) (k : Nat → List Addr → α) : α := HandSHeadRun.frNat b fun b => match Nat.beq (Nat.land (Nat.shiftRight seen b) 1) 1 with
  | true => k seen new
  | false => HandSHeadRun.frNat (Nat.lor seen (Nat.shiftLeft 1 b)) fun seen => k seen (b :: new)
def refsE {α : Type} : List Addr → Nat → List Addr → (Nat → List Addr → α) → α
  | [], seen, new, k => k seen new
  | b :: r, seen, new, k => oneE seen new b fun seen new => refsE r seen new k
def lvlE {α : Type} (g : Addr → Option Obj) : List Addr → Nat → List Addr → (Nat → List Addr → α) → α
  | [], seen, new, k => k seen new
  | a :: r, seen, new, k => match g a with
    | some o => refsE (He.refsD o) seen new fun seen new => lvlE g r seen new k
    | none => lvlE g r seen new k
def asE (g : Addr → Option Obj) : Nat → List Addr → List Addr → Nat → List Addr
  | 0, all, _, _ => all
  | n + 1, all, fr, seen => lvlE g fr seen [] fun seen new => asE g n (new ++ all) new seen
def asN (g : Addr → Option Obj) (n : Nat) : List Addr := asE g n [mainGlobals, cStatics] [mainGlobals] (Nat.lor (Nat.shiftLeft 1 mainGlobals) (Nat.shiftLeft 1 cStatics))
def frK {α : Type} : PySem.W.Frag → (PySem.W.Frag → α) → α
  | [], k => k []
  | (a, o) :: r, k => frK r fun r => HandSHeadRun.frNat a fun a => k ((a, o) :: r)
def oA (S : Sta) (K : PySem.W.Frag) : Bool := spB K && ((List.range S.cls.length).all (clsB S K) && ((List.range S.exs.length).all (exB S K) && (S.tys.all (tyB S K) && (S.free.all (fun x => (He.Fa.free x).ok K) && S.glo.all (fun p => gloB K p.1 p.2)))))
def oB (S : Sta) (K : PySem.W.Frag) : Bool := S.fn.all (fnB K) && S.meth.all (methB S K)
def oC (S : Sta) (K : PySem.W.Frag) : Bool := S.init.all (initB S K) && (S.up.all (upB S K) && S.exm.all (exmB S K))
def oD (fn : List He.DefD) (K : PySem.W.Frag) : Bool := fn.all fun d => d.ok K
def oE (fn : List He.DefD) (K : PySem.W.Frag) : List He.FnW := fn.map fun d => He.fnW K d.at_
def onK {α : Type} (n : Nat) (f : PySem.W.Frag → α) (s : PySem.W.SharedT) : α := frK (He.frG (HandSHeadRun.getT s) (asN (HandSHeadRun.getT s) n)) f
abbrev Row : Type := Nat × (Str × Option Str) × Df × CF
def dfD (p : Str × Option Str) (d : Df) : He.DefD := ⟨p, d.name, d.qual, d.params, d.body, d.scope, [], []⟩
def rowD (x : Row) : He.DefD := dfD x.2.1 x.2.2.1
end Dv
end
section
set_option maxRecDepth 100000
set_option linter.unusedVariables false
namespace Dv.Law
open PySem Dv
/- 2 -/
def c_is_whole : CF := ⟨1, 1, [], (.cons (.ret (.ands (.cons (.isi (.var 0) (.bt "int")) (.cons (.nt (.isi (.var 0) (.bt "bool"))) .nil))))
  .nil)⟩
/- 3 -/
def c_lowest : CF := ⟨5, 5, [0, 1, 2, 3, 4], (.cons (.iff (.ands (.cons (.cmp .Eq (.var 0) (.lit (.int 0))) (.cons (.cmp .Eq (.var 1) (.lit (.int 0))) (.cons (.cmp .Eq (.var 2) (.lit (.int 0))) (.cons (.cmp .Eq (.var 3) (.lit (.int 0))) .nil))))) (.cons (.ret (.tup (.cons (.lit (.int 0)) (.cons (.lit (.int 0)) (.cons (.lit (.int 0)) (.cons (.lit (.int 0)) (.cons (.lit (.int 0)) .nil)))))))
  .nil) .nil)
  (.cons (.whl (.ands (.cons (.cmp .Gt (.var 4) (.lit (.int 0))) (.cons (.cmp .Eq (.bin .Mod (.bin .Sub (.var 0) (.var 2)) (.lit (.int 2))) (.lit (.int 0))) (.cons (.cmp .Eq (.bin .Mod (.bin .Sub (.var 1) (.var 3)) (.lit (.int 2))) (.lit (.int 0))) .nil)))) (.cons (.setT (.tp [(.nm 0), (.nm 1), (.nm 2), (.nm 3)]) (.tup (.cons (.bin .FloorDiv (.bin .Sub (.var 1) (.var 3)) (.lit (.int 2))) (.cons (.bin .FloorDiv (.bin .Add (.var 0) (.var 2)) (.lit (.int 2))) (.cons (.bin .FloorDiv (.bin .Add (.var 1) (.var 3)) (.lit (.int 2))) (.cons (.bin .FloorDiv (.bin .Sub (.var 2) (.var 0)) (.lit (.int 2))) .nil))))))
  (.cons (.aug 4 .Sub (.lit (.int 1)))
  .nil)))
  (.cons (.ret (.tup (.cons (.var 0) (.cons (.var 1) (.cons (.var 2) (.cons (.var 3) (.cons (.var 4) .nil)))))))
  .nil)))⟩
/- 4 -/
def c_is_eighth : CF := ⟨1, 7, [], (.cons (.iff (.ors (.cons (.nt (.val (.isi (.var 0) (.bt "tuple")))) (.cons (.cmp .NotEq (.bc .len (.cons (.var 0) .nil)) (.lit (.int 5))) (.cons (.nt (.val (.bc .all_ (.cons (.lc [6] (.nm 6) (.slot 0) .nil (.call 2 (.cons (.var 6) .nil))) .nil)))) .nil)))) (.cons (.ret (.lit (.bl false)))
  .nil) .nil)
  (.cons (.setT (.tp [(.nm 1), (.nm 2), (.nm 3), (.nm 4), (.nm 5)]) (.var 0))
  (.cons (.ret (.ands (.cons (.cmp .GtE (.var 5) (.lit (.int 0))) (.cons (.cmp .Eq (.call 3 (.cons (.var 1) (.cons (.var 2) (.cons (.var 3) (.cons (.var 4) (.cons (.var 5) .nil)))))) (.var 0)) .nil))))
  .nil)))⟩
/- 5 -/
def c_rooted : CF := ⟨2, 7, [], (.cons (.setT (.tp [(.nm 2), (.nm 3), (.nm 4), (.nm 5)]) (.slc (.var 0) .no (.yes (.lit (.int 4)))))
  (.cons (.for_ (.nm 6) (.rng1 (.var 1)) (.cons (.setT (.tp [(.nm 2), (.nm 3), (.nm 4), (.nm 5)]) (.tup (.cons (.bin .Sub (.var 3) (.var 5)) (.cons (.bin .Add (.var 2) (.var 4)) (.cons (.bin .Add (.var 3) (.var 5)) (.cons (.bin .Sub (.var 4) (.var 2)) .nil))))))
  .nil))
  (.cons (.ret (.tup (.cons (.var 2) (.cons (.var 3) (.cons (.var 4) (.cons (.var 5) .nil))))))
  .nil)))⟩
/- 6 -/
def c_plus : CF := ⟨2, 5, [], (.cons (.set 2 (.bc .max2 (.cons (.ix (.var 0) (.lit (.int 4))) (.cons (.ix (.var 1) (.lit (.int 4))) .nil))))
  (.cons (.set 3 (.call 5 (.cons (.var 0) (.cons (.bin .Sub (.var 2) (.ix (.var 0) (.lit (.int 4)))) .nil))))
  (.cons (.set 4 (.call 5 (.cons (.var 1) (.cons (.bin .Sub (.var 2) (.ix (.var 1) (.lit (.int 4)))) .nil))))
  (.cons (.ret (.call 3 (.cons (.bin .Add (.ix (.var 3) (.lit (.int 0))) (.ix (.var 4) (.lit (.int 0)))) (.cons (.bin .Add (.ix (.var 3) (.lit (.int 1))) (.ix (.var 4) (.lit (.int 1)))) (.cons (.bin .Add (.ix (.var 3) (.lit (.int 2))) (.ix (.var 4) (.lit (.int 2)))) (.cons (.bin .Add (.ix (.var 3) (.lit (.int 3))) (.ix (.var 4) (.lit (.int 3)))) (.cons (.var 2) .nil)))))))
  .nil))))⟩
/- 9 -/
def c_turned : CF := ⟨2, 8, [], (.cons (.iff (.nt (.val (.call 2 (.cons (.var 1) .nil)))) (.cons (.raise 1)
  .nil) .nil)
  (.cons (.setT (.tp [(.nm 2), (.nm 3), (.nm 4), (.nm 5), (.nm 6)]) (.var 0))
  (.cons (.for_ (.nm 7) (.rng1 (.bin .Mod (.var 1) (.lit (.int 8)))) (.cons (.setT (.tp [(.nm 2), (.nm 3), (.nm 4), (.nm 5)]) (.tup (.cons (.un .USub (.var 5)) (.cons (.var 2) (.cons (.var 3) (.cons (.var 4) .nil))))))
  .nil))
  (.cons (.ret (.tup (.cons (.var 2) (.cons (.var 3) (.cons (.var 4) (.cons (.var 5) (.cons (.var 6) .nil)))))))
  .nil))))⟩
/- 10 -/
def c_over_root : CF := ⟨2, 7, [], (.cons (.iff (.ors (.cons (.nt (.val (.call 2 (.cons (.var 1) .nil)))) (.cons (.cmp .Lt (.var 1) (.lit (.int 0))) .nil))) (.cons (.raise 1)
  .nil) .nil)
  (.cons (.setT (.tp [(.nm 2), (.nm 3), (.nm 4), (.nm 5), (.nm 6)]) (.var 0))
  (.cons (.ret (.call 3 (.cons (.var 2) (.cons (.var 3) (.cons (.var 4) (.cons (.var 5) (.cons (.bin .Add (.var 6) (.var 1)) .nil)))))))
  .nil)))⟩
/- 17 -/
def c_State___init__ : CF := ⟨2, 3, [], (.cons (.iff (.ors (.cons (.nt (.val (.isi (.var 1) (.bt "list")))) (.cons (.cmp .NotIn (.bc .len (.cons (.var 1) .nil)) (.glo (Str.ofString "SIZES") (.tup [(.int 2), (.int 4), (.int 8), (.int 16), (.int 32)]))) (.cons (.nt (.val (.bc .all_ (.cons (.lc [2] (.nm 2) (.slot 1) .nil (.call 4 (.cons (.var 2) .nil))) .nil)))) .nil)))) (.cons (.raise 2)
  .nil) .nil)
  (.cons (.fset 0 (Str.ofString "kept") [(0, 0)] (.bc .tuple (.cons (.var 1) .nil)))
  .nil))⟩
/- 18 -/
def c_State_many : CF := ⟨1, 1, [], (.cons (.ret (.bin .Add (.bm .indexK (.glo (Str.ofString "SIZES") (.tup [(.int 2), (.int 4), (.int 8), (.int 16), (.int 32)])) (.cons (.bc .len (.cons (.fld (Str.ofString "kept") [(0, 0)] (.var 0)) .nil)) .nil)) (.lit (.int 1))))
  .nil)⟩
/- 19 -/
def c_State_eighths : CF := ⟨1, 1, [], (.cons (.ret (.bc .list (.cons (.fld (Str.ofString "kept") [(0, 0)] (.var 0)) .nil)))
  .nil)⟩
/- 25 -/
def c_Gate___init__ : CF := ⟨2, 3, [], (.cons (.for_ (.nm 2) (.seq (.var 1)) (.cons (.iff (.ors (.cons (.nt (.val (.call 2 (.cons (.var 2) .nil)))) (.cons (.nt (.cm2 .LtE .LtE (.lit (.int 0)) (.var 2) (.glo (Str.ofString "MOST_WIRE") (.int 4)))) (.cons (.cmp .NotEq (.bm .countK (.var 1) (.cons (.var 2) .nil)) (.lit (.int 1))) .nil)))) (.cons (.raise 4)
  .nil) .nil)
  .nil))
  (.cons (.fset 0 (Str.ofString "on_wires") [(1, 0), (2, 0), (3, 0), (4, 0), (5, 0), (6, 0), (7, 0), (8, 0), (9, 0), (10, 0), (11, 0), (12, 0), (13, 0), (14, 0)] (.var 1))
  .nil))⟩
/- 26 -/
def c_Gate_wires : CF := ⟨1, 1, [], (.cons (.ret (.fld (Str.ofString "on_wires") [(1, 0), (2, 0), (3, 0), (4, 0), (5, 0), (6, 0), (7, 0), (8, 0), (9, 0), (10, 0), (11, 0), (12, 0), (13, 0), (14, 0)] (.var 0)))
  .nil)⟩
/- 27 -/
def c_Gate_word : CF := ⟨1, 1, [], (.cons (.ret (.lit (.str (Str.ofString ""))))
  .nil)⟩
/- 28 -/
def c_Gate_text : CF := ⟨1, 2, [], (.cons (.ret (.bm .join (.lit (.str (Str.ofString " "))) (.cons (.bin .Add (.lst (.cons (.meth (Str.ofString "word") [(1, 27), (2, 36), (3, 40), (4, 27), (5, 46), (6, 48), (7, 51), (8, 54), (9, 57), (10, 61), (11, 64), (12, 68), (13, 71), (14, 75)] (.var 0) .nil) .nil)) (.lc [1] (.nm 1) (.seq (.fld (Str.ofString "on_wires") [(1, 0), (2, 0), (3, 0), (4, 0), (5, 0), (6, 0), (7, 0), (8, 0), (9, 0), (10, 0), (11, 0), (12, 0), (13, 0), (14, 0)] (.var 0))) .nil (.bc .str (.cons (.var 1) .nil)))) .nil)))
  .nil)⟩
/- 29 -/
def c_Gate_back : CF := ⟨1, 1, [], (.cons (.ret (.var 0))
  .nil)⟩
/- 30 -/
def c_Gate_is_bit : CF := ⟨1, 1, [], (.cons (.ret (.lit (.bl false)))
  .nil)⟩
/- 31 -/
def c_Gate_is_quarter : CF := ⟨1, 1, [], (.cons (.ret (.lit (.bl true)))
  .nil)⟩
/- 32 -/
def c_Gate_goes : CF := ⟨2, 2, [], (.cons (.ret (.lst (.cons (.tup (.cons (.var 1) (.cons (.lit (.int 0)) (.cons (.lit (.int 0)) .nil)))) .nil)))
  .nil)⟩
/- 33 -/
def c_Gate_on : CF := ⟨2, 12, [], (.cons (.iff (.nt (.val (.isi (.var 1) (.cls 0 [0])))) (.cons (.raise 2)
  .nil) .nil)
  (.cons (.iff (.cmp .GtE (.bc .max1 (.cons (.fld (Str.ofString "on_wires") [(1, 0), (2, 0), (3, 0), (4, 0), (5, 0), (6, 0), (7, 0), (8, 0), (9, 0), (10, 0), (11, 0), (12, 0), (13, 0), (14, 0)] (.var 0)) .nil)) (.meth (Str.ofString "many") [(0, 18)] (.var 1) .nil)) (.cons (.raise 4)
  .nil) .nil)
  (.cons (.set 2 (.lc [10] (.nm 10) (.seq (.fld (Str.ofString "on_wires") [(1, 0), (2, 0), (3, 0), (4, 0), (5, 0), (6, 0), (7, 0), (8, 0), (9, 0), (10, 0), (11, 0), (12, 0), (13, 0), (14, 0)] (.var 0))) .nil (.bin .Sub (.bin .Sub (.meth (Str.ofString "many") [(0, 18)] (.var 1) .nil) (.lit (.int 1))) (.var 10))))
  (.cons (.set 3 (.bin .Mult (.lst (.cons (.glo (Str.ofString "NOUGHT") (.tup [(.int 0), (.int 0), (.int 0), (.int 0), (.int 0)])) .nil)) (.bin .LShift (.lit (.int 1)) (.meth (Str.ofString "many") [(0, 18)] (.var 1) .nil))))
  (.cons (.for_ (.tp [(.nm 4), (.nm 5)]) (.enum (.meth (Str.ofString "eighths") [(0, 19)] (.var 1) .nil)) (.cons (.iff (.cmp .NotEq (.var 5) (.glo (Str.ofString "NOUGHT") (.tup [(.int 0), (.int 0), (.int 0), (.int 0), (.int 0)]))) (.cons (.for_ (.tp [(.nm 6), (.nm 7), (.nm 8)]) (.seq (.meth (Str.ofString "goes") [(1, 32), (2, 38), (3, 41), (4, 45), (5, 45), (6, 45), (7, 45), (8, 45), (9, 45), (10, 62), (11, 66), (12, 69), (13, 73), (14, 78)] (.var 0) (.cons (.lc [11] (.nm 11) (.slot 2) .nil (.bin .BitAnd (.bin .RShift (.var 4) (.var 11)) (.lit (.int 1)))) .nil))) (.cons (.set 9 (.call 34 (.cons (.var 4) (.cons (.var 2) (.cons (.var 6) .nil)))))
  (.cons (.setIx 3 (.var 9) (.call 6 (.cons (.ix (.var 3) (.var 9)) (.cons (.call 10 (.cons (.call 9 (.cons (.var 5) (.cons (.var 7) .nil))) (.cons (.var 8) .nil))) .nil))))
  .nil)))
  .nil) .nil)
  .nil))
  (.cons (.ret (.mk 0 1 17 (.cons (.var 3) .nil)))
  .nil))))))⟩
/- 34 -/
def c_put_bits : CF := ⟨3, 5, [0], (.cons (.for_ (.tp [(.nm 3), (.nm 4)]) (.zip2 (.var 1) (.var 2)) (.cons (.set 0 (.bin .BitOr (.bin .BitAnd (.var 0) (.un .Invert (.bin .LShift (.lit (.int 1)) (.var 3)))) (.bin .LShift (.var 4) (.var 3))))
  .nil))
  (.cons (.ret (.var 0))
  .nil))⟩
/- 35 -/
def c_X___init__ : CF := ⟨2, 2, [], (.cons (.expr (.call 25 (.cons (.var 0) (.cons (.tpk (.cons (.var 1) .nil)) .nil))))
  .nil)⟩
/- 36 -/
def c_X_word : CF := ⟨1, 1, [], (.cons (.ret (.lit (.str (Str.ofString "x"))))
  .nil)⟩
/- 37 -/
def c_X_is_bit : CF := ⟨1, 1, [], (.cons (.ret (.lit (.bl true)))
  .nil)⟩
/- 38 -/
def c_X_goes : CF := ⟨2, 2, [], (.cons (.ret (.lst (.cons (.tup (.cons (.lst (.cons (.bin .Sub (.lit (.int 1)) (.ix (.var 1) (.lit (.int 0)))) .nil)) (.cons (.lit (.int 0)) (.cons (.lit (.int 0)) .nil)))) .nil)))
  .nil)⟩
/- 39 -/
def c_Y___init__ : CF := ⟨2, 2, [], (.cons (.expr (.call 25 (.cons (.var 0) (.cons (.tpk (.cons (.var 1) .nil)) .nil))))
  .nil)⟩
/- 40 -/
def c_Y_word : CF := ⟨1, 1, [], (.cons (.ret (.lit (.str (Str.ofString "y"))))
  .nil)⟩
/- 41 -/
def c_Y_goes : CF := ⟨2, 2, [], (.cons (.ret (.lst (.cons (.tup (.cons (.lst (.cons (.bin .Sub (.lit (.int 1)) (.ix (.var 1) (.lit (.int 0)))) .nil)) (.cons (.bin .Add (.lit (.int 2)) (.bin .Mult (.lit (.int 4)) (.ix (.var 1) (.lit (.int 0))))) (.cons (.lit (.int 0)) .nil)))) .nil)))
  .nil)⟩
/- 42 -/
def c_Turner___init__ : CF := ⟨2, 2, [], (.cons (.expr (.call 25 (.cons (.var 0) (.cons (.tpk (.cons (.var 1) .nil)) .nil))))
  .nil)⟩
/- 43 -/
def c_Turner_turns : CF := ⟨1, 1, [], (.cons (.ret (.lit (.int 0)))
  .nil)⟩
/- 44 -/
def c_Turner_is_quarter : CF := ⟨1, 1, [], (.cons (.ret (.cmp .Eq (.bin .Mod (.meth (Str.ofString "turns") [(4, 43), (5, 47), (6, 49), (7, 52), (8, 55), (9, 58)] (.var 0) .nil) (.lit (.int 2))) (.lit (.int 0))))
  .nil)⟩
/- 45 -/
def c_Turner_goes : CF := ⟨2, 2, [], (.cons (.ret (.lst (.cons (.tup (.cons (.var 1) (.cons (.bin .Mult (.meth (Str.ofString "turns") [(4, 43), (5, 47), (6, 49), (7, 52), (8, 55), (9, 58)] (.var 0) .nil) (.ix (.var 1) (.lit (.int 0)))) (.cons (.lit (.int 0)) .nil)))) .nil)))
  .nil)⟩
/- 46 -/
def c_Z_word : CF := ⟨1, 1, [], (.cons (.ret (.lit (.str (Str.ofString "z"))))
  .nil)⟩
/- 47 -/
def c_Z_turns : CF := ⟨1, 1, [], (.cons (.ret (.lit (.int 4)))
  .nil)⟩
/- 48 -/
def c_S_word : CF := ⟨1, 1, [], (.cons (.ret (.lit (.str (Str.ofString "s"))))
  .nil)⟩
/- 49 -/
def c_S_turns : CF := ⟨1, 1, [], (.cons (.ret (.lit (.int 2)))
  .nil)⟩
/- 50 -/
def c_S_back : CF := ⟨1, 1, [], (.cons (.ret (.mk 7 1 42 (.cons (.ix (.fld (Str.ofString "on_wires") [(1, 0), (2, 0), (3, 0), (4, 0), (5, 0), (6, 0), (7, 0), (8, 0), (9, 0), (10, 0), (11, 0), (12, 0), (13, 0), (14, 0)] (.var 0)) (.lit (.int 0))) .nil)))
  .nil)⟩
/- 51 -/
def c_R_word : CF := ⟨1, 1, [], (.cons (.ret (.lit (.str (Str.ofString "r"))))
  .nil)⟩
/- 52 -/
def c_R_turns : CF := ⟨1, 1, [], (.cons (.ret (.lit (.int 6)))
  .nil)⟩
/- 53 -/
def c_R_back : CF := ⟨1, 1, [], (.cons (.ret (.mk 6 1 42 (.cons (.ix (.fld (Str.ofString "on_wires") [(1, 0), (2, 0), (3, 0), (4, 0), (5, 0), (6, 0), (7, 0), (8, 0), (9, 0), (10, 0), (11, 0), (12, 0), (13, 0), (14, 0)] (.var 0)) (.lit (.int 0))) .nil)))
  .nil)⟩
/- 54 -/
def c_T_word : CF := ⟨1, 1, [], (.cons (.ret (.lit (.str (Str.ofString "t"))))
  .nil)⟩
/- 55 -/
def c_T_turns : CF := ⟨1, 1, [], (.cons (.ret (.lit (.int 1)))
  .nil)⟩
/- 56 -/
def c_T_back : CF := ⟨1, 1, [], (.cons (.ret (.mk 9 1 42 (.cons (.ix (.fld (Str.ofString "on_wires") [(1, 0), (2, 0), (3, 0), (4, 0), (5, 0), (6, 0), (7, 0), (8, 0), (9, 0), (10, 0), (11, 0), (12, 0), (13, 0), (14, 0)] (.var 0)) (.lit (.int 0))) .nil)))
  .nil)⟩
/- 57 -/
def c_U_word : CF := ⟨1, 1, [], (.cons (.ret (.lit (.str (Str.ofString "u"))))
  .nil)⟩
/- 58 -/
def c_U_turns : CF := ⟨1, 1, [], (.cons (.ret (.lit (.int 7)))
  .nil)⟩
/- 59 -/
def c_U_back : CF := ⟨1, 1, [], (.cons (.ret (.mk 8 1 42 (.cons (.ix (.fld (Str.ofString "on_wires") [(1, 0), (2, 0), (3, 0), (4, 0), (5, 0), (6, 0), (7, 0), (8, 0), (9, 0), (10, 0), (11, 0), (12, 0), (13, 0), (14, 0)] (.var 0)) (.lit (.int 0))) .nil)))
  .nil)⟩
/- 60 -/
def c_H___init__ : CF := ⟨2, 2, [], (.cons (.expr (.call 25 (.cons (.var 0) (.cons (.tpk (.cons (.var 1) .nil)) .nil))))
  .nil)⟩
/- 61 -/
def c_H_word : CF := ⟨1, 1, [], (.cons (.ret (.lit (.str (Str.ofString "h"))))
  .nil)⟩
/- 62 -/
def c_H_goes : CF := ⟨2, 2, [], (.cons (.ret (.lst (.cons (.tup (.cons (.lst (.cons (.lit (.int 0)) .nil)) (.cons (.lit (.int 0)) (.cons (.lit (.int 1)) .nil)))) (.cons (.tup (.cons (.lst (.cons (.lit (.int 1)) .nil)) (.cons (.bin .Mult (.lit (.int 4)) (.ix (.var 1) (.lit (.int 0)))) (.cons (.lit (.int 1)) .nil)))) .nil))))
  .nil)⟩
/- 63 -/
def c_Cx___init__ : CF := ⟨3, 3, [], (.cons (.expr (.call 25 (.cons (.var 0) (.cons (.tpk (.cons (.var 1) (.cons (.var 2) .nil))) .nil))))
  .nil)⟩
/- 64 -/
def c_Cx_word : CF := ⟨1, 1, [], (.cons (.ret (.lit (.str (Str.ofString "cx"))))
  .nil)⟩
/- 65 -/
def c_Cx_is_bit : CF := ⟨1, 1, [], (.cons (.ret (.lit (.bl true)))
  .nil)⟩
/- 66 -/
def c_Cx_goes : CF := ⟨2, 2, [], (.cons (.ret (.lst (.cons (.tup (.cons (.lst (.cons (.ix (.var 1) (.lit (.int 0))) (.cons (.bin .BitXor (.ix (.var 1) (.lit (.int 0))) (.ix (.var 1) (.lit (.int 1)))) .nil))) (.cons (.lit (.int 0)) (.cons (.lit (.int 0)) .nil)))) .nil)))
  .nil)⟩
/- 67 -/
def c_Cz___init__ : CF := ⟨3, 3, [], (.cons (.expr (.call 25 (.cons (.var 0) (.cons (.tpk (.cons (.var 1) (.cons (.var 2) .nil))) .nil))))
  .nil)⟩
/- 68 -/
def c_Cz_word : CF := ⟨1, 1, [], (.cons (.ret (.lit (.str (Str.ofString "cz"))))
  .nil)⟩
/- 69 -/
def c_Cz_goes : CF := ⟨2, 2, [], (.cons (.ret (.lst (.cons (.tup (.cons (.var 1) (.cons (.bin .Mult (.bin .Mult (.lit (.int 4)) (.ix (.var 1) (.lit (.int 0)))) (.ix (.var 1) (.lit (.int 1)))) (.cons (.lit (.int 0)) .nil)))) .nil)))
  .nil)⟩
/- 70 -/
def c_Swap___init__ : CF := ⟨3, 3, [], (.cons (.expr (.call 25 (.cons (.var 0) (.cons (.tpk (.cons (.var 1) (.cons (.var 2) .nil))) .nil))))
  .nil)⟩
/- 71 -/
def c_Swap_word : CF := ⟨1, 1, [], (.cons (.ret (.lit (.str (Str.ofString "swap"))))
  .nil)⟩
/- 72 -/
def c_Swap_is_bit : CF := ⟨1, 1, [], (.cons (.ret (.lit (.bl true)))
  .nil)⟩
/- 73 -/
def c_Swap_goes : CF := ⟨2, 2, [], (.cons (.ret (.lst (.cons (.tup (.cons (.lst (.cons (.ix (.var 1) (.lit (.int 1))) (.cons (.ix (.var 1) (.lit (.int 0))) .nil))) (.cons (.lit (.int 0)) (.cons (.lit (.int 0)) .nil)))) .nil)))
  .nil)⟩
/- 74 -/
def c_Ccx___init__ : CF := ⟨4, 4, [], (.cons (.expr (.call 25 (.cons (.var 0) (.cons (.tpk (.cons (.var 1) (.cons (.var 2) (.cons (.var 3) .nil)))) .nil))))
  .nil)⟩
/- 75 -/
def c_Ccx_word : CF := ⟨1, 1, [], (.cons (.ret (.lit (.str (Str.ofString "ccx"))))
  .nil)⟩
/- 76 -/
def c_Ccx_is_bit : CF := ⟨1, 1, [], (.cons (.ret (.lit (.bl true)))
  .nil)⟩
/- 77 -/
def c_Ccx_is_quarter : CF := ⟨1, 1, [], (.cons (.ret (.lit (.bl false)))
  .nil)⟩
/- 78 -/
def c_Ccx_goes : CF := ⟨2, 2, [], (.cons (.ret (.lst (.cons (.tup (.cons (.lst (.cons (.ix (.var 1) (.lit (.int 0))) (.cons (.ix (.var 1) (.lit (.int 1))) (.cons (.bin .BitXor (.ix (.var 1) (.lit (.int 2))) (.bin .BitAnd (.ix (.var 1) (.lit (.int 0))) (.ix (.var 1) (.lit (.int 1))))) .nil)))) (.cons (.lit (.int 0)) (.cons (.lit (.int 0)) .nil)))) .nil)))
  .nil)⟩
/- 79 -/
def c_single : CF := ⟨2, 2, [], (.cons (.iff (.cmp .Eq (.var 0) (.lit (.str (Str.ofString "x")))) (.cons (.ret (.mk 2 1 35 (.cons (.var 1) .nil)))
  .nil) .nil)
  (.cons (.iff (.cmp .Eq (.var 0) (.lit (.str (Str.ofString "y")))) (.cons (.ret (.mk 3 1 39 (.cons (.var 1) .nil)))
  .nil) .nil)
  (.cons (.iff (.cmp .Eq (.var 0) (.lit (.str (Str.ofString "z")))) (.cons (.ret (.mk 5 1 42 (.cons (.var 1) .nil)))
  .nil) .nil)
  (.cons (.iff (.cmp .Eq (.var 0) (.lit (.str (Str.ofString "s")))) (.cons (.ret (.mk 6 1 42 (.cons (.var 1) .nil)))
  .nil) .nil)
  (.cons (.iff (.cmp .Eq (.var 0) (.lit (.str (Str.ofString "r")))) (.cons (.ret (.mk 7 1 42 (.cons (.var 1) .nil)))
  .nil) .nil)
  (.cons (.iff (.cmp .Eq (.var 0) (.lit (.str (Str.ofString "t")))) (.cons (.ret (.mk 8 1 42 (.cons (.var 1) .nil)))
  .nil) .nil)
  (.cons (.iff (.cmp .Eq (.var 0) (.lit (.str (Str.ofString "u")))) (.cons (.ret (.mk 9 1 42 (.cons (.var 1) .nil)))
  .nil) .nil)
  (.cons (.ret (.mk 10 1 60 (.cons (.var 1) .nil)))
  .nil))))))))⟩
/- 80 -/
def c_gate_of : CF := ⟨2, 3, [], (.cons (.set 2 (.tup (.cons (.lit (.str (Str.ofString "x"))) (.cons (.lit (.str (Str.ofString "y"))) (.cons (.lit (.str (Str.ofString "z"))) (.cons (.lit (.str (Str.ofString "s"))) (.cons (.lit (.str (Str.ofString "r"))) (.cons (.lit (.str (Str.ofString "t"))) (.cons (.lit (.str (Str.ofString "u"))) (.cons (.lit (.str (Str.ofString "h"))) .nil))))))))))
  (.cons (.iff (.ors (.cons (.nt (.val (.isi (.var 1) (.bt "tuple")))) (.cons (.nt (.val (.isi (.var 0) (.bt "str")))) .nil))) (.cons (.raise 3)
  .nil) .nil)
  (.cons (.iff (.ands (.cons (.cmp .In (.var 0) (.var 2)) (.cons (.cmp .Eq (.bc .len (.cons (.var 1) .nil)) (.lit (.int 1))) .nil))) (.cons (.ret (.call 79 (.cons (.var 0) (.cons (.ix (.var 1) (.lit (.int 0))) .nil))))
  .nil) .nil)
  (.cons (.iff (.ands (.cons (.cmp .Eq (.var 0) (.lit (.str (Str.ofString "cx")))) (.cons (.cmp .Eq (.bc .len (.cons (.var 1) .nil)) (.lit (.int 2))) .nil))) (.cons (.ret (.mk 11 1 63 (.cons (.ix (.var 1) (.lit (.int 0))) (.cons (.ix (.var 1) (.lit (.int 1))) .nil))))
  .nil) .nil)
  (.cons (.iff (.ands (.cons (.cmp .Eq (.var 0) (.lit (.str (Str.ofString "cz")))) (.cons (.cmp .Eq (.bc .len (.cons (.var 1) .nil)) (.lit (.int 2))) .nil))) (.cons (.ret (.mk 12 1 67 (.cons (.ix (.var 1) (.lit (.int 0))) (.cons (.ix (.var 1) (.lit (.int 1))) .nil))))
  .nil) .nil)
  (.cons (.iff (.ands (.cons (.cmp .Eq (.var 0) (.lit (.str (Str.ofString "swap")))) (.cons (.cmp .Eq (.bc .len (.cons (.var 1) .nil)) (.lit (.int 2))) .nil))) (.cons (.ret (.mk 13 1 70 (.cons (.ix (.var 1) (.lit (.int 0))) (.cons (.ix (.var 1) (.lit (.int 1))) .nil))))
  .nil) .nil)
  (.cons (.iff (.ands (.cons (.cmp .Eq (.var 0) (.lit (.str (Str.ofString "ccx")))) (.cons (.cmp .Eq (.bc .len (.cons (.var 1) .nil)) (.lit (.int 3))) .nil))) (.cons (.ret (.mk 14 1 74 (.cons (.ix (.var 1) (.lit (.int 0))) (.cons (.ix (.var 1) (.lit (.int 1))) (.cons (.ix (.var 1) (.lit (.int 2))) .nil)))))
  .nil) .nil)
  (.cons (.raise 3)
  .nil))))))))⟩
/- 1000 -/
def c__law_next : CF := ⟨2, 2, [], (.cons (.setIx 0 (.lit (.int 0)) (.bin .Mod (.bin .Add (.bin .Mult (.ix (.var 0) (.lit (.int 0))) (.lit (.int 48271))) (.lit (.int 11))) (.lit (.int 2147483647))))
  (.cons (.ret (.bin .Mod (.bin .FloorDiv (.ix (.var 0) (.lit (.int 0))) (.lit (.int 7))) (.var 1)))
  .nil))⟩
/- 1001 -/
def c__law_cell : CF := ⟨2, 2, [], (.cons (.iff (.cmp .Lt (.var 1) (.bc .len (.cons (.var 0) .nil))) (.cons (.ret (.ix (.var 0) (.var 1)))
  .nil) .nil)
  (.cons (.ret (.lit (.int 0)))
  .nil))⟩
/- 1002 -/
def c__law_state : CF := ⟨2, 3, [], (.cons (.set 2 (.bin .Mod (.bin .Add (.bin .Add (.bin .Mult (.var 0) (.lit (.int 48271))) (.bin .Mult (.var 1) (.lit (.int 104729)))) (.lit (.int 7919))) (.lit (.int 2147483647))))
  (.cons (.ret (.lst (.cons (.bin .Add (.lit (.int 1)) (.bin .Mod (.bin .Add (.bin .Mult (.var 2) (.var 2)) (.bin .Mult (.lit (.int 69621)) (.var 1))) (.lit (.int 2147483629)))) .nil)))
  .nil))⟩
/- 1003 -/
def c__law_drawn_gate : CF := ⟨2, 7, [], (.cons (.set 2 (.lst (.cons (.lit (.str (Str.ofString "x"))) (.cons (.lit (.str (Str.ofString "y"))) (.cons (.lit (.str (Str.ofString "z"))) (.cons (.lit (.str (Str.ofString "h"))) (.cons (.lit (.str (Str.ofString "s"))) (.cons (.lit (.str (Str.ofString "r"))) (.cons (.lit (.str (Str.ofString "t"))) (.cons (.lit (.str (Str.ofString "u"))) (.cons (.lit (.str (Str.ofString "h"))) (.cons (.lit (.str (Str.ofString "t"))) .nil))))))))))))
  (.cons (.iff (.cmp .Gt (.var 1) (.lit (.int 1))) (.cons (.set 2 (.bin .Add (.var 2) (.lst (.cons (.lit (.str (Str.ofString "cx"))) (.cons (.lit (.str (Str.ofString "cz"))) (.cons (.lit (.str (Str.ofString "swap"))) (.cons (.lit (.str (Str.ofString "cx"))) (.cons (.lit (.str (Str.ofString "cz"))) .nil))))))))
  .nil) .nil)
  (.cons (.iff (.cmp .Gt (.var 1) (.lit (.int 2))) (.cons (.set 2 (.bin .Add (.var 2) (.lst (.cons (.lit (.str (Str.ofString "ccx"))) (.cons (.lit (.str (Str.ofString "ccx"))) .nil)))))
  .nil) .nil)
  (.cons (.set 3 (.ix (.var 2) (.call 1000 (.cons (.var 0) (.cons (.bc .len (.cons (.var 2) .nil)) .nil)))))
  (.cons (.set 4 (.itl true (.rng1 (.var 1))))
  (.cons (.set 5 (.lst .nil))
  (.cons (.for_ (.nm 6) (.rng1 (.dget [((.str (Str.ofString "cx")), (.int 2)), ((.str (Str.ofString "cz")), (.int 2)), ((.str (Str.ofString "swap")), (.int 2)), ((.str (Str.ofString "ccx")), (.int 3))] (.var 3) (.lit (.int 1)))) (.cons (.expr (.mm .append (.var 5) (.cons (.mm .popAt (.var 4) (.cons (.call 1000 (.cons (.var 0) (.cons (.bc .len (.cons (.var 4) .nil)) .nil))) .nil)) .nil)))
  .nil))
  (.cons (.ret (.tup (.cons (.var 3) (.cons (.bc .tuple (.cons (.var 5) .nil)) .nil))))
  .nil))))))))⟩
/- 1004 -/
def c__law_made : CF := ⟨2, 2, [], (.cons (.iff (.cmp .Eq (.var 0) (.lit (.str (Str.ofString "x")))) (.cons (.ret (.mk 2 1 35 (.cons (.ix (.var 1) (.lit (.int 0))) .nil)))
  .nil) .nil)
  (.cons (.iff (.cmp .Eq (.var 0) (.lit (.str (Str.ofString "y")))) (.cons (.ret (.mk 3 1 39 (.cons (.ix (.var 1) (.lit (.int 0))) .nil)))
  .nil) .nil)
  (.cons (.iff (.cmp .Eq (.var 0) (.lit (.str (Str.ofString "z")))) (.cons (.ret (.mk 5 1 42 (.cons (.ix (.var 1) (.lit (.int 0))) .nil)))
  .nil) .nil)
  (.cons (.iff (.cmp .Eq (.var 0) (.lit (.str (Str.ofString "h")))) (.cons (.ret (.mk 10 1 60 (.cons (.ix (.var 1) (.lit (.int 0))) .nil)))
  .nil) .nil)
  (.cons (.iff (.cmp .Eq (.var 0) (.lit (.str (Str.ofString "s")))) (.cons (.ret (.mk 6 1 42 (.cons (.ix (.var 1) (.lit (.int 0))) .nil)))
  .nil) .nil)
  (.cons (.iff (.cmp .Eq (.var 0) (.lit (.str (Str.ofString "r")))) (.cons (.ret (.mk 7 1 42 (.cons (.ix (.var 1) (.lit (.int 0))) .nil)))
  .nil) .nil)
  (.cons (.iff (.cmp .Eq (.var 0) (.lit (.str (Str.ofString "t")))) (.cons (.ret (.mk 8 1 42 (.cons (.ix (.var 1) (.lit (.int 0))) .nil)))
  .nil) .nil)
  (.cons (.ret (.call 1005 (.cons (.var 0) (.cons (.var 1) .nil))))
  .nil))))))))⟩
/- 1005 -/
def c__law_other : CF := ⟨2, 2, [], (.cons (.iff (.cmp .Eq (.var 0) (.lit (.str (Str.ofString "u")))) (.cons (.ret (.mk 9 1 42 (.cons (.ix (.var 1) (.lit (.int 0))) .nil)))
  .nil) .nil)
  (.cons (.iff (.cmp .Eq (.var 0) (.lit (.str (Str.ofString "cx")))) (.cons (.ret (.mk 11 1 63 (.cons (.ix (.var 1) (.lit (.int 0))) (.cons (.ix (.var 1) (.lit (.int 1))) .nil))))
  .nil) .nil)
  (.cons (.iff (.cmp .Eq (.var 0) (.lit (.str (Str.ofString "cz")))) (.cons (.ret (.mk 12 1 67 (.cons (.ix (.var 1) (.lit (.int 0))) (.cons (.ix (.var 1) (.lit (.int 1))) .nil))))
  .nil) .nil)
  (.cons (.iff (.cmp .Eq (.var 0) (.lit (.str (Str.ofString "swap")))) (.cons (.ret (.mk 13 1 70 (.cons (.ix (.var 1) (.lit (.int 0))) (.cons (.ix (.var 1) (.lit (.int 1))) .nil))))
  .nil) .nil)
  (.cons (.ret (.mk 14 1 74 (.cons (.ix (.var 1) (.lit (.int 0))) (.cons (.ix (.var 1) (.lit (.int 1))) (.cons (.ix (.var 1) (.lit (.int 2))) .nil)))))
  .nil)))))⟩
/- 1006 -/
def c__law_right : CF := ⟨3, 7, [], (.cons (.iff (.ors (.cons (.nt (.val (.isi (.var 0) (.cls 1 [1, 2, 3, 4, 5, 6, 7, 8, 9, 10, 11, 12, 13, 14])))) (.cons (.cmp .NotEq (.meth (Str.ofString "word") [(1, 27), (2, 36), (3, 40), (4, 27), (5, 46), (6, 48), (7, 51), (8, 54), (9, 57), (10, 61), (11, 64), (12, 68), (13, 71), (14, 75)] (.var 0) .nil) (.var 1)) (.cons (.cmp .NotEq (.meth (Str.ofString "wires") [(1, 26), (2, 26), (3, 26), (4, 26), (5, 26), (6, 26), (7, 26), (8, 26), (9, 26), (10, 26), (11, 26), (12, 26), (13, 26), (14, 26)] (.var 0) .nil) (.var 2)) .nil)))) (.cons (.ret (.lit (.bl false)))
  .nil) .nil)
  (.cons (.iff (.ors (.cons (.nt (.val (.isi (.meth (Str.ofString "wires") [(1, 26), (2, 26), (3, 26), (4, 26), (5, 26), (6, 26), (7, 26), (8, 26), (9, 26), (10, 26), (11, 26), (12, 26), (13, 26), (14, 26)] (.var 0) .nil) (.bt "tuple")))) (.cons (.cmp .NotEq (.meth (Str.ofString "text") [(1, 28), (2, 28), (3, 28), (4, 28), (5, 28), (6, 28), (7, 28), (8, 28), (9, 28), (10, 28), (11, 28), (12, 28), (13, 28), (14, 28)] (.var 0) .nil) (.bm .join (.lit (.str (Str.ofString " "))) (.cons (.bin .Add (.lst (.cons (.var 1) .nil)) (.lc [6] (.nm 6) (.slot 2) .nil (.bc .str (.cons (.var 6) .nil)))) .nil))) .nil))) (.cons (.ret (.lit (.bl false)))
  .nil) .nil)
  (.cons (.set 3 (.cmp .In (.var 1) (.lst (.cons (.lit (.str (Str.ofString "x"))) (.cons (.lit (.str (Str.ofString "cx"))) (.cons (.lit (.str (Str.ofString "swap"))) (.cons (.lit (.str (Str.ofString "ccx"))) .nil)))))))
  (.cons (.set 4 (.cmp .NotIn (.var 1) (.lst (.cons (.lit (.str (Str.ofString "t"))) (.cons (.lit (.str (Str.ofString "u"))) (.cons (.lit (.str (Str.ofString "ccx"))) .nil))))))
  (.cons (.set 5 (.dget [((.str (Str.ofString "s")), (.str (Str.ofString "r"))), ((.str (Str.ofString "r")), (.str (Str.ofString "s"))), ((.str (Str.ofString "t")), (.str (Str.ofString "u"))), ((.str (Str.ofString "u")), (.str (Str.ofString "t")))] (.var 1) (.var 1)))
  (.cons (.iff (.ors (.cons (.cmp .NotEq (.meth (Str.ofString "is_bit") [(1, 30), (2, 37), (3, 30), (4, 30), (5, 30), (6, 30), (7, 30), (8, 30), (9, 30), (10, 30), (11, 65), (12, 30), (13, 72), (14, 76)] (.var 0) .nil) (.var 3)) (.cons (.cmp .NotEq (.meth (Str.ofString "is_quarter") [(1, 31), (2, 31), (3, 31), (4, 44), (5, 44), (6, 44), (7, 44), (8, 44), (9, 44), (10, 31), (11, 31), (12, 31), (13, 31), (14, 77)] (.var 0) .nil) (.var 4)) .nil))) (.cons (.ret (.lit (.bl false)))
  .nil) .nil)
  (.cons (.iff (.ors (.cons (.nt (.val (.isi (.meth (Str.ofString "is_bit") [(1, 30), (2, 37), (3, 30), (4, 30), (5, 30), (6, 30), (7, 30), (8, 30), (9, 30), (10, 30), (11, 65), (12, 30), (13, 72), (14, 76)] (.var 0) .nil) (.bt "bool")))) (.cons (.nt (.val (.isi (.meth (Str.ofString "is_quarter") [(1, 31), (2, 31), (3, 31), (4, 44), (5, 44), (6, 44), (7, 44), (8, 44), (9, 44), (10, 31), (11, 31), (12, 31), (13, 31), (14, 77)] (.var 0) .nil) (.bt "bool")))) .nil))) (.cons (.ret (.lit (.bl false)))
  .nil) .nil)
  (.cons (.ret (.ands (.cons (.cmp .Eq (.meth (Str.ofString "word") [(1, 27), (2, 36), (3, 40), (4, 27), (5, 46), (6, 48), (7, 51), (8, 54), (9, 57), (10, 61), (11, 64), (12, 68), (13, 71), (14, 75)] (.meth (Str.ofString "back") [(1, 29), (2, 29), (3, 29), (4, 29), (5, 29), (6, 50), (7, 53), (8, 56), (9, 59), (10, 29), (11, 29), (12, 29), (13, 29), (14, 29)] (.var 0) .nil) .nil) (.var 5)) (.cons (.cmp .Eq (.meth (Str.ofString "wires") [(1, 26), (2, 26), (3, 26), (4, 26), (5, 26), (6, 26), (7, 26), (8, 26), (9, 26), (10, 26), (11, 26), (12, 26), (13, 26), (14, 26)] (.meth (Str.ofString "back") [(1, 29), (2, 29), (3, 29), (4, 29), (5, 29), (6, 50), (7, 53), (8, 56), (9, 59), (10, 29), (11, 29), (12, 29), (13, 29), (14, 29)] (.var 0) .nil) .nil) (.var 2)) .nil))))
  .nil))))))))⟩
/- 1007 -/
def c__law_refused : CF := ⟨2, 4, [], (.cons (.set 2 (.lit .non))
  (.cons (.tryAs (.cons (.expr (.call 80 (.cons (.var 0) (.cons (.var 1) .nil))))
  .nil) 0 [0, 1, 2, 3, 4] 3 2)
  (.cons (.iff (.cmp .Eq (.isi (.var 2) (.exc 3 [3])) (.isi (.var 2) (.exc 4 [4]))) (.cons (.ret (.lit (.str (Str.ofString "more"))))
  .nil) .nil)
  (.cons (.ret (.ix (.lst (.cons (.lit (.str (Str.ofString "NoGate"))) (.cons (.lit (.str (Str.ofString "NoWire"))) .nil))) (.bc .int (.cons (.isi (.var 2) (.exc 4 [4])) .nil))))
  .nil))))⟩
/- 1008 -/
def c__law_class_refused : CF := ⟨2, 4, [], (.cons (.set 2 (.lit .non))
  (.cons (.tryAs (.cons (.expr (.call 1004 (.cons (.var 0) (.cons (.var 1) .nil))))
  .nil) 0 [0, 1, 2, 3, 4] 3 2)
  (.cons (.ret (.ands (.cons (.isi (.var 2) (.exc 4 [4])) (.cons (.nt (.isi (.var 2) (.exc 3 [3]))) .nil))))
  .nil)))⟩
/- 1009 -/
def c_law : CF := ⟨1, 9, [], (.cons (.for_ (.nm 1) (.rng1 (.bc .len (.cons (.var 0) .nil))) (.cons (.set 2 (.call 1002 (.cons (.ix (.var 0) (.var 1)) (.cons (.var 1) .nil))))
  (.cons (.setT (.tp [(.nm 3), (.nm 4)]) (.call 1003 (.cons (.var 2) (.cons (.bin .Add (.lit (.int 1)) (.call 1000 (.cons (.var 2) (.cons (.lit (.int 5)) .nil)))) .nil))))
  (.cons (.iff (.ors (.cons (.nt (.val (.call 1006 (.cons (.call 80 (.cons (.var 3) (.cons (.var 4) .nil))) (.cons (.var 3) (.cons (.var 4) .nil)))))) (.cons (.nt (.val (.call 1006 (.cons (.call 1004 (.cons (.var 3) (.cons (.var 4) .nil))) (.cons (.var 3) (.cons (.var 4) .nil)))))) .nil))) (.cons (.ret (.lit (.bl false)))
  .nil) .nil)
  (.cons (.set 5 (.ix (.lst (.cons (.lit (.int 5)) (.cons (.un .USub (.lit (.int 1))) (.cons (.lit (.bl true)) (.cons (.lit .non) (.cons (.lit (.str (Str.ofString "0"))) (.cons (.bin .Add (.lit (.int 5)) (.call 1000 (.cons (.var 2) (.cons (.bin .Pow (.lit (.int 10)) (.lit (.int 6))) .nil)))) (.cons (.ix (.var 4) (.lit (.int 0))) (.cons (.tup (.cons (.lit (.int 0)) .nil)) (.cons (.lst (.cons (.lit (.int 0)) .nil)) .nil)))))))))) (.call 1000 (.cons (.var 2) (.cons (.lit (.int 9)) .nil)))))
  (.cons (.set 6 (.call 1000 (.cons (.var 2) (.cons (.bc .len (.cons (.var 4) .nil)) .nil))))
  (.cons (.set 7 (.bin .Add (.bin .Add (.slc (.var 4) .no (.yes (.var 6))) (.tup (.cons (.var 5) .nil))) (.slc (.var 4) (.yes (.bin .Add (.var 6) (.lit (.int 1)))) .no)))
  (.cons (.iff (.ands (.cons (.cmp .NotEq (.var 7) (.var 4)) (.cons (.cmp .NotEq (.call 1007 (.cons (.var 3) (.cons (.var 7) .nil))) (.lit (.str (Str.ofString "NoWire")))) .nil))) (.cons (.ret (.lit (.bl false)))
  .nil) .nil)
  (.cons (.iff (.ands (.cons (.cmp .NotEq (.var 7) (.var 4)) (.cons (.nt (.val (.call 1008 (.cons (.var 3) (.cons (.var 7) .nil))))) .nil))) (.cons (.ret (.lit (.bl false)))
  .nil) .nil)
  (.cons (.set 8 (.lst (.cons (.tup (.cons (.var 3) (.cons (.bin .Add (.var 4) (.bin .Mult (.tup (.cons (.lit (.int 4)) .nil)) (.lit (.int 3)))) .nil))) (.cons (.tup (.cons (.var 3) (.cons (.tup .nil) .nil))) (.cons (.tup (.cons (.var 3) (.cons (.bc .list (.cons (.var 4) .nil)) .nil))) (.cons (.tup (.cons (.lit (.str (Str.ofString "w"))) (.cons (.var 4) .nil))) (.cons (.tup (.cons (.lit (.str (Str.ofString ""))) (.cons (.tup (.cons (.lit (.int 0)) .nil)) .nil))) (.cons (.tup (.cons (.lit .non) (.cons (.var 4) .nil))) .nil))))))))
  (.cons (.set 8 (.bin .Add (.var 8) (.lst (.cons (.tup (.cons (.bm .upper (.var 3) .nil) (.cons (.var 4) .nil))) (.cons (.tup (.cons (.var 3) (.cons (.lit .non) .nil))) (.cons (.tup (.cons (.bin .Add (.var 3) (.lit (.str (Str.ofString " ")))) (.cons (.var 4) .nil))) (.cons (.tup (.cons (.lit (.str (Str.ofString "cxx"))) (.cons (.tup (.cons (.lit (.int 5)) (.cons (.lit (.int 5)) (.cons (.lit (.int 5)) .nil)))) .nil))) (.cons (.tup (.cons (.lit (.str (Str.ofString "x"))) (.cons (.tup (.cons (.lit (.int 9)) (.cons (.lit (.int 9)) .nil))) .nil))) .nil))))))))
  (.cons (.set 8 (.bin .Add (.var 8) (.lst (.cons (.tup (.cons (.lst (.cons (.lit (.str (Str.ofString "x"))) .nil)) (.cons (.var 4) .nil))) (.cons (.tup (.cons (.dsp []) (.cons (.var 4) .nil))) .nil)))))
  (.cons (.iff (.cmp .NotEq (.call 1007 (.cons (.ix (.ix (.var 8) (.bin .Mod (.var 1) (.lit (.int 13)))) (.lit (.int 0))) (.cons (.ix (.ix (.var 8) (.bin .Mod (.var 1) (.lit (.int 13)))) (.lit (.int 1))) .nil))) (.lit (.str (Str.ofString "NoGate")))) (.cons (.ret (.lit (.bl false)))
  .nil) .nil)
  .nil)))))))))))))
  (.cons (.ret (.lit (.bl true)))
  .nil))⟩
def code : Nat → Option CF
  | 2 => some c_is_whole
  | 3 => some c_lowest
  | 4 => some c_is_eighth
  | 5 => some c_rooted
  | 6 => some c_plus
  | 9 => some c_turned
  | 10 => some c_over_root
  | 17 => some c_State___init__
  | 18 => some c_State_many
  | 19 => some c_State_eighths
  | 25 => some c_Gate___init__
  | 26 => some c_Gate_wires
  | 27 => some c_Gate_word
  | 28 => some c_Gate_text
  | 29 => some c_Gate_back
  | 30 => some c_Gate_is_bit
  | 31 => some c_Gate_is_quarter
  | 32 => some c_Gate_goes
  | 33 => some c_Gate_on
  | 34 => some c_put_bits
  | 35 => some c_X___init__
  | 36 => some c_X_word
  | 37 => some c_X_is_bit
  | 38 => some c_X_goes
  | 39 => some c_Y___init__
  | 40 => some c_Y_word
  | 41 => some c_Y_goes
  | 42 => some c_Turner___init__
  | 43 => some c_Turner_turns
  | 44 => some c_Turner_is_quarter
  | 45 => some c_Turner_goes
  | 46 => some c_Z_word
  | 47 => some c_Z_turns
  | 48 => some c_S_word
  | 49 => some c_S_turns
  | 50 => some c_S_back
  | 51 => some c_R_word
  | 52 => some c_R_turns
  | 53 => some c_R_back
  | 54 => some c_T_word
  | 55 => some c_T_turns
  | 56 => some c_T_back
  | 57 => some c_U_word
  | 58 => some c_U_turns
  | 59 => some c_U_back
  | 60 => some c_H___init__
  | 61 => some c_H_word
  | 62 => some c_H_goes
  | 63 => some c_Cx___init__
  | 64 => some c_Cx_word
  | 65 => some c_Cx_is_bit
  | 66 => some c_Cx_goes
  | 67 => some c_Cz___init__
  | 68 => some c_Cz_word
  | 69 => some c_Cz_goes
  | 70 => some c_Swap___init__
  | 71 => some c_Swap_word
  | 72 => some c_Swap_is_bit
  | 73 => some c_Swap_goes
  | 74 => some c_Ccx___init__
  | 75 => some c_Ccx_word
  | 76 => some c_Ccx_is_bit
  | 77 => some c_Ccx_is_quarter
  | 78 => some c_Ccx_goes
  | 79 => some c_single
  | 80 => some c_gate_of
  | 1000 => some c__law_next
  | 1001 => some c__law_cell
  | 1002 => some c__law_state
  | 1003 => some c__law_drawn_gate
  | 1004 => some c__law_made
  | 1005 => some c__law_other
  | 1006 => some c__law_right
  | 1007 => some c__law_refused
  | 1008 => some c__law_class_refused
  | 1009 => some c_law
  | _ => none
end Dv.Law
end
section
namespace Dv.Hd
open PySem Dv L2 Dv.Law
def top (i : Nat) : Stmt := PySem.Challenge.pw_bothwire_k32_gates_told.main.body.getD i (.Pass ⟨0, 0, 0, 0⟩)
def S : Sta where
  fn := [(2, ((Str.ofString "is_whole"), none)), (3, ((Str.ofString "lowest"), none)), (4, ((Str.ofString "is_eighth"), none)), (5, ((Str.ofString "rooted"), none)), (6, ((Str.ofString "plus"), none)), (9, ((Str.ofString "turned"), none)), (10, ((Str.ofString "over_root"), none)), (17, ((Str.ofString "State"), some (Str.ofString "__init__"))), (18, ((Str.ofString "State"), some (Str.ofString "many"))), (19, ((Str.ofString "State"), some (Str.ofString "eighths"))), (25, ((Str.ofString "Gate"), some (Str.ofString "__init__"))), (26, ((Str.ofString "Gate"), some (Str.ofString "wires"))), (27, ((Str.ofString "Gate"), some (Str.ofString "word"))), (28, ((Str.ofString "Gate"), some (Str.ofString "text"))), (29, ((Str.ofString "Gate"), some (Str.ofString "back"))), (30, ((Str.ofString "Gate"), some (Str.ofString "is_bit"))), (31, ((Str.ofString "Gate"), some (Str.ofString "is_quarter"))), (32, ((Str.ofString "Gate"), some (Str.ofString "goes"))), (33, ((Str.ofString "Gate"), some (Str.ofString "on"))), (34, ((Str.ofString "put_bits"), none)), (35, ((Str.ofString "X"), some (Str.ofString "__init__"))), (36, ((Str.ofString "X"), some (Str.ofString "word"))), (37, ((Str.ofString "X"), some (Str.ofString "is_bit"))), (38, ((Str.ofString "X"), some (Str.ofString "goes"))), (39, ((Str.ofString "Y"), some (Str.ofString "__init__"))), (40, ((Str.ofString "Y"), some (Str.ofString "word"))), (41, ((Str.ofString "Y"), some (Str.ofString "goes"))), (42, ((Str.ofString "Turner"), some (Str.ofString "__init__"))), (43, ((Str.ofString "Turner"), some (Str.ofString "turns"))), (44, ((Str.ofString "Turner"), some (Str.ofString "is_quarter"))), (45, ((Str.ofString "Turner"), some (Str.ofString "goes"))), (46, ((Str.ofString "Z"), some (Str.ofString "word"))), (47, ((Str.ofString "Z"), some (Str.ofString "turns"))), (48, ((Str.ofString "S"), some (Str.ofString "word"))), (49, ((Str.ofString "S"), some (Str.ofString "turns"))), (50, ((Str.ofString "S"), some (Str.ofString "back"))), (51, ((Str.ofString "R"), some (Str.ofString "word"))), (52, ((Str.ofString "R"), some (Str.ofString "turns"))), (53, ((Str.ofString "R"), some (Str.ofString "back"))), (54, ((Str.ofString "T"), some (Str.ofString "word"))), (55, ((Str.ofString "T"), some (Str.ofString "turns"))), (56, ((Str.ofString "T"), some (Str.ofString "back"))), (57, ((Str.ofString "U"), some (Str.ofString "word"))), (58, ((Str.ofString "U"), some (Str.ofString "turns"))), (59, ((Str.ofString "U"), some (Str.ofString "back"))), (60, ((Str.ofString "H"), some (Str.ofString "__init__"))), (61, ((Str.ofString "H"), some (Str.ofString "word"))), (62, ((Str.ofString "H"), some (Str.ofString "goes"))), (63, ((Str.ofString "Cx"), some (Str.ofString "__init__"))), (64, ((Str.ofString "Cx"), some (Str.ofString "word"))), (65, ((Str.ofString "Cx"), some (Str.ofString "is_bit"))), (66, ((Str.ofString "Cx"), some (Str.ofString "goes"))), (67, ((Str.ofString "Cz"), some (Str.ofString "__init__"))), (68, ((Str.ofString "Cz"), some (Str.ofString "word"))), (69, ((Str.ofString "Cz"), some (Str.ofString "goes"))), (70, ((Str.ofString "Swap"), some (Str.ofString "__init__"))), (71, ((Str.ofString "Swap"), some (Str.ofString "word"))), (72, ((Str.ofString "Swap"), some (Str.ofString "is_bit"))), (73, ((Str.ofString "Swap"), some (Str.ofString "goes"))), (74, ((Str.ofString "Ccx"), some (Str.ofString "__init__"))), (75, ((Str.ofString "Ccx"), some (Str.ofString "word"))), (76, ((Str.ofString "Ccx"), some (Str.ofString "is_bit"))), (77, ((Str.ofString "Ccx"), some (Str.ofString "is_quarter"))), (78, ((Str.ofString "Ccx"), some (Str.ofString "goes"))), (79, ((Str.ofString "single"), none)), (80, ((Str.ofString "gate_of"), none)), (1000, ((Str.ofString "_law_next"), none)), (1001, ((Str.ofString "_law_cell"), none)), (1002, ((Str.ofString "_law_state"), none)), (1003, ((Str.ofString "_law_drawn_gate"), none)), (1004, ((Str.ofString "_law_made"), none)), (1005, ((Str.ofString "_law_other"), none)), (1006, ((Str.ofString "_law_right"), none)), (1007, ((Str.ofString "_law_refused"), none)), (1008, ((Str.ofString "_law_class_refused"), none)), (1009, ((Str.ofString "law"), none))]
  cls := [((Str.ofString "State"), [Str.ofString "kept"]), ((Str.ofString "Gate"), [Str.ofString "on_wires"]), ((Str.ofString "X"), [Str.ofString "on_wires"]), ((Str.ofString "Y"), [Str.ofString "on_wires"]), ((Str.ofString "Turner"), [Str.ofString "on_wires"]), ((Str.ofString "Z"), [Str.ofString "on_wires"]), ((Str.ofString "S"), [Str.ofString "on_wires"]), ((Str.ofString "R"), [Str.ofString "on_wires"]), ((Str.ofString "T"), [Str.ofString "on_wires"]), ((Str.ofString "U"), [Str.ofString "on_wires"]), ((Str.ofString "H"), [Str.ofString "on_wires"]), ((Str.ofString "Cx"), [Str.ofString "on_wires"]), ((Str.ofString "Cz"), [Str.ofString "on_wires"]), ((Str.ofString "Swap"), [Str.ofString "on_wires"]), ((Str.ofString "Ccx"), [Str.ofString "on_wires"])]
  exs := [Str.ofString "WireError", Str.ofString "NoNumber", Str.ofString "NoState", Str.ofString "NoGate", Str.ofString "NoWire"]
  glo := [((Str.ofString "SIZES"), (.tup [(.int 2), (.int 4), (.int 8), (.int 16), (.int 32)])), ((Str.ofString "NOUGHT"), (.tup [(.int 0), (.int 0), (.int 0), (.int 0), (.int 0)])), ((Str.ofString "MOST_WIRE"), (.int 4))]
  meth := [(1, (Str.ofString "back"), 29), (2, (Str.ofString "back"), 29), (3, (Str.ofString "back"), 29), (4, (Str.ofString "back"), 29), (5, (Str.ofString "back"), 29), (6, (Str.ofString "back"), 50), (7, (Str.ofString "back"), 53), (8, (Str.ofString "back"), 56), (9, (Str.ofString "back"), 59), (10, (Str.ofString "back"), 29), (11, (Str.ofString "back"), 29), (12, (Str.ofString "back"), 29), (13, (Str.ofString "back"), 29), (14, (Str.ofString "back"), 29), (0, (Str.ofString "eighths"), 19), (1, (Str.ofString "goes"), 32), (2, (Str.ofString "goes"), 38), (3, (Str.ofString "goes"), 41), (4, (Str.ofString "goes"), 45), (5, (Str.ofString "goes"), 45), (6, (Str.ofString "goes"), 45), (7, (Str.ofString "goes"), 45), (8, (Str.ofString "goes"), 45), (9, (Str.ofString "goes"), 45), (10, (Str.ofString "goes"), 62), (11, (Str.ofString "goes"), 66), (12, (Str.ofString "goes"), 69), (13, (Str.ofString "goes"), 73), (14, (Str.ofString "goes"), 78), (1, (Str.ofString "is_bit"), 30), (2, (Str.ofString "is_bit"), 37), (3, (Str.ofString "is_bit"), 30), (4, (Str.ofString "is_bit"), 30), (5, (Str.ofString "is_bit"), 30), (6, (Str.ofString "is_bit"), 30), (7, (Str.ofString "is_bit"), 30), (8, (Str.ofString "is_bit"), 30), (9, (Str.ofString "is_bit"), 30), (10, (Str.ofString "is_bit"), 30), (11, (Str.ofString "is_bit"), 65), (12, (Str.ofString "is_bit"), 30), (13, (Str.ofString "is_bit"), 72), (14, (Str.ofString "is_bit"), 76), (1, (Str.ofString "is_quarter"), 31), (2, (Str.ofString "is_quarter"), 31), (3, (Str.ofString "is_quarter"), 31), (4, (Str.ofString "is_quarter"), 44), (5, (Str.ofString "is_quarter"), 44), (6, (Str.ofString "is_quarter"), 44), (7, (Str.ofString "is_quarter"), 44), (8, (Str.ofString "is_quarter"), 44), (9, (Str.ofString "is_quarter"), 44), (10, (Str.ofString "is_quarter"), 31), (11, (Str.ofString "is_quarter"), 31), (12, (Str.ofString "is_quarter"), 31), (13, (Str.ofString "is_quarter"), 31), (14, (Str.ofString "is_quarter"), 77), (0, (Str.ofString "many"), 18), (1, (Str.ofString "on"), 33), (2, (Str.ofString "on"), 33), (3, (Str.ofString "on"), 33), (4, (Str.ofString "on"), 33), (5, (Str.ofString "on"), 33), (6, (Str.ofString "on"), 33), (7, (Str.ofString "on"), 33), (8, (Str.ofString "on"), 33), (9, (Str.ofString "on"), 33), (10, (Str.ofString "on"), 33), (11, (Str.ofString "on"), 33), (12, (Str.ofString "on"), 33), (13, (Str.ofString "on"), 33), (14, (Str.ofString "on"), 33), (1, (Str.ofString "text"), 28), (2, (Str.ofString "text"), 28), (3, (Str.ofString "text"), 28), (4, (Str.ofString "text"), 28), (5, (Str.ofString "text"), 28), (6, (Str.ofString "text"), 28), (7, (Str.ofString "text"), 28), (8, (Str.ofString "text"), 28), (9, (Str.ofString "text"), 28), (10, (Str.ofString "text"), 28), (11, (Str.ofString "text"), 28), (12, (Str.ofString "text"), 28), (13, (Str.ofString "text"), 28), (14, (Str.ofString "text"), 28), (4, (Str.ofString "turns"), 43), (5, (Str.ofString "turns"), 47), (6, (Str.ofString "turns"), 49), (7, (Str.ofString "turns"), 52), (8, (Str.ofString "turns"), 55), (9, (Str.ofString "turns"), 58), (1, (Str.ofString "wires"), 26), (2, (Str.ofString "wires"), 26), (3, (Str.ofString "wires"), 26), (4, (Str.ofString "wires"), 26), (5, (Str.ofString "wires"), 26), (6, (Str.ofString "wires"), 26), (7, (Str.ofString "wires"), 26), (8, (Str.ofString "wires"), 26), (9, (Str.ofString "wires"), 26), (10, (Str.ofString "wires"), 26), (11, (Str.ofString "wires"), 26), (12, (Str.ofString "wires"), 26), (13, (Str.ofString "wires"), 26), (14, (Str.ofString "wires"), 26), (1, (Str.ofString "word"), 27), (2, (Str.ofString "word"), 36), (3, (Str.ofString "word"), 40), (4, (Str.ofString "word"), 27), (5, (Str.ofString "word"), 46), (6, (Str.ofString "word"), 48), (7, (Str.ofString "word"), 51), (8, (Str.ofString "word"), 54), (9, (Str.ofString "word"), 57), (10, (Str.ofString "word"), 61), (11, (Str.ofString "word"), 64), (12, (Str.ofString "word"), 68), (13, (Str.ofString "word"), 71), (14, (Str.ofString "word"), 75)]
  init := [(0, 17), (1, 25), (2, 35), (3, 39), (4, 42), (5, 42), (6, 42), (7, 42), (8, 42), (9, 42), (10, 60), (11, 63), (12, 67), (13, 70), (14, 74)]
  tys := [.bt "bool", .bt "int", .bt "tuple", .bt "list", .cls 0 [0], .bt "str", .cls 1 [1, 2, 3, 4, 5, 6, 7, 8, 9, 10, 11, 12, 13, 14], .exc 4 [4], .exc 3 [3]]
  exm := [(0, [0, 1, 2, 3, 4])]
  free := [Str.ofString "isinstance", Str.ofString "int", Str.ofString "bool", Str.ofString "tuple", Str.ofString "len", Str.ofString "all", Str.ofString "range", Str.ofString "max", Str.ofString "list", Str.ofString "str", Str.ofString "enumerate", Str.ofString "zip"]
  up := [(1, 25)]
def d_is_whole : Df := ⟨(Str.ofString "is_whole"), (Str.ofString "is_whole"), L2.defArgs (top 8), L2.defBody (top 8), L2.defScope (top 8), [Str.ofString "thing"], [Str.ofString "thing"]⟩
def d_lowest : Df := ⟨(Str.ofString "lowest"), (Str.ofString "lowest"), L2.defArgs (top 9), L2.defBody (top 9), L2.defScope (top 9), [Str.ofString "a", Str.ofString "b", Str.ofString "c", Str.ofString "d", Str.ofString "k"], [Str.ofString "a", Str.ofString "b", Str.ofString "c", Str.ofString "d", Str.ofString "k"]⟩
def d_is_eighth : Df := ⟨(Str.ofString "is_eighth"), (Str.ofString "is_eighth"), L2.defArgs (top 10), L2.defBody (top 10), L2.defScope (top 10), [Str.ofString "thing", Str.ofString "a", Str.ofString "b", Str.ofString "c", Str.ofString "d", Str.ofString "k", Str.ofString "one"], [Str.ofString "thing"]⟩
def d_rooted : Df := ⟨(Str.ofString "rooted"), (Str.ofString "rooted"), L2.defArgs (top 11), L2.defBody (top 11), L2.defScope (top 11), [Str.ofString "one", Str.ofString "many", Str.ofString "a", Str.ofString "b", Str.ofString "c", Str.ofString "d", Str.ofString "turn"], [Str.ofString "one", Str.ofString "many"]⟩
def d_plus : Df := ⟨(Str.ofString "plus"), (Str.ofString "plus"), L2.defArgs (top 12), L2.defBody (top 12), L2.defScope (top 12), [Str.ofString "one", Str.ofString "other", Str.ofString "k", Str.ofString "first", Str.ofString "second"], [Str.ofString "one", Str.ofString "other"]⟩
def d_turned : Df := ⟨(Str.ofString "turned"), (Str.ofString "turned"), L2.defArgs (top 13), L2.defBody (top 13), L2.defScope (top 13), [Str.ofString "one", Str.ofString "many", Str.ofString "a", Str.ofString "b", Str.ofString "c", Str.ofString "d", Str.ofString "k", Str.ofString "turn"], [Str.ofString "one", Str.ofString "many"]⟩
def d_over_root : Df := ⟨(Str.ofString "over_root"), (Str.ofString "over_root"), L2.defArgs (top 14), L2.defBody (top 14), L2.defScope (top 14), [Str.ofString "one", Str.ofString "many", Str.ofString "a", Str.ofString "b", Str.ofString "c", Str.ofString "d", Str.ofString "k"], [Str.ofString "one", Str.ofString "many"]⟩
def d_State___init__ : Df := ⟨(Str.ofString "__init__"), (Str.ofString "State.__init__"), L2.defArgs (L2.inClass (top 18) 0), L2.defBody (L2.inClass (top 18) 0), L2.defScope (L2.inClass (top 18) 0), [Str.ofString "self", Str.ofString "eighths", Str.ofString "one"], [Str.ofString "self", Str.ofString "eighths"]⟩
def d_State_many : Df := ⟨(Str.ofString "many"), (Str.ofString "State.many"), L2.defArgs (L2.inClass (top 18) 1), L2.defBody (L2.inClass (top 18) 1), L2.defScope (L2.inClass (top 18) 1), [Str.ofString "self"], [Str.ofString "self"]⟩
def d_State_eighths : Df := ⟨(Str.ofString "eighths"), (Str.ofString "State.eighths"), L2.defArgs (L2.inClass (top 18) 2), L2.defBody (L2.inClass (top 18) 2), L2.defScope (L2.inClass (top 18) 2), [Str.ofString "self"], [Str.ofString "self"]⟩
def d_Gate___init__ : Df := ⟨(Str.ofString "__init__"), (Str.ofString "Gate.__init__"), L2.defArgs (L2.inClass (top 21) 0), L2.defBody (L2.inClass (top 21) 0), L2.defScope (L2.inClass (top 21) 0), [Str.ofString "self", Str.ofString "wires", Str.ofString "wire"], [Str.ofString "self", Str.ofString "wires"]⟩
def d_Gate_wires : Df := ⟨(Str.ofString "wires"), (Str.ofString "Gate.wires"), L2.defArgs (L2.inClass (top 21) 1), L2.defBody (L2.inClass (top 21) 1), L2.defScope (L2.inClass (top 21) 1), [Str.ofString "self"], [Str.ofString "self"]⟩
def d_Gate_word : Df := ⟨(Str.ofString "word"), (Str.ofString "Gate.word"), L2.defArgs (L2.inClass (top 21) 2), L2.defBody (L2.inClass (top 21) 2), L2.defScope (L2.inClass (top 21) 2), [Str.ofString "self"], [Str.ofString "self"]⟩
def d_Gate_text : Df := ⟨(Str.ofString "text"), (Str.ofString "Gate.text"), L2.defArgs (L2.inClass (top 21) 3), L2.defBody (L2.inClass (top 21) 3), L2.defScope (L2.inClass (top 21) 3), [Str.ofString "self", Str.ofString "wire"], [Str.ofString "self"]⟩
def d_Gate_back : Df := ⟨(Str.ofString "back"), (Str.ofString "Gate.back"), L2.defArgs (L2.inClass (top 21) 4), L2.defBody (L2.inClass (top 21) 4), L2.defScope (L2.inClass (top 21) 4), [Str.ofString "self"], [Str.ofString "self"]⟩
def d_Gate_is_bit : Df := ⟨(Str.ofString "is_bit"), (Str.ofString "Gate.is_bit"), L2.defArgs (L2.inClass (top 21) 5), L2.defBody (L2.inClass (top 21) 5), L2.defScope (L2.inClass (top 21) 5), [Str.ofString "self"], [Str.ofString "self"]⟩
def d_Gate_is_quarter : Df := ⟨(Str.ofString "is_quarter"), (Str.ofString "Gate.is_quarter"), L2.defArgs (L2.inClass (top 21) 6), L2.defBody (L2.inClass (top 21) 6), L2.defScope (L2.inClass (top 21) 6), [Str.ofString "self"], [Str.ofString "self"]⟩
def d_Gate_goes : Df := ⟨(Str.ofString "goes"), (Str.ofString "Gate.goes"), L2.defArgs (L2.inClass (top 21) 7), L2.defBody (L2.inClass (top 21) 7), L2.defScope (L2.inClass (top 21) 7), [Str.ofString "self", Str.ofString "bits"], [Str.ofString "self", Str.ofString "bits"]⟩
def d_Gate_on : Df := ⟨(Str.ofString "on"), (Str.ofString "Gate.on"), L2.defArgs (L2.inClass (top 21) 8), L2.defBody (L2.inClass (top 21) 8), L2.defScope (L2.inClass (top 21) 8), [Str.ofString "self", Str.ofString "state", Str.ofString "places", Str.ofString "found", Str.ofString "row", Str.ofString "one", Str.ofString "bits", Str.ofString "turns", Str.ofString "roots", Str.ofString "there", Str.ofString "wire", Str.ofString "place"], [Str.ofString "self", Str.ofString "state"]⟩
def d_put_bits : Df := ⟨(Str.ofString "put_bits"), (Str.ofString "put_bits"), L2.defArgs (top 22), L2.defBody (top 22), L2.defScope (top 22), [Str.ofString "row", Str.ofString "places", Str.ofString "bits", Str.ofString "place", Str.ofString "bit"], [Str.ofString "row", Str.ofString "places", Str.ofString "bits"]⟩
def d_X___init__ : Df := ⟨(Str.ofString "__init__"), (Str.ofString "X.__init__"), L2.defArgs (L2.inClass (top 23) 0), L2.defBody (L2.inClass (top 23) 0), L2.defScope (L2.inClass (top 23) 0), [Str.ofString "self", Str.ofString "a"], [Str.ofString "self", Str.ofString "a"]⟩
def d_X_word : Df := ⟨(Str.ofString "word"), (Str.ofString "X.word"), L2.defArgs (L2.inClass (top 23) 1), L2.defBody (L2.inClass (top 23) 1), L2.defScope (L2.inClass (top 23) 1), [Str.ofString "self"], [Str.ofString "self"]⟩
def d_X_is_bit : Df := ⟨(Str.ofString "is_bit"), (Str.ofString "X.is_bit"), L2.defArgs (L2.inClass (top 23) 2), L2.defBody (L2.inClass (top 23) 2), L2.defScope (L2.inClass (top 23) 2), [Str.ofString "self"], [Str.ofString "self"]⟩
def d_X_goes : Df := ⟨(Str.ofString "goes"), (Str.ofString "X.goes"), L2.defArgs (L2.inClass (top 23) 3), L2.defBody (L2.inClass (top 23) 3), L2.defScope (L2.inClass (top 23) 3), [Str.ofString "self", Str.ofString "bits"], [Str.ofString "self", Str.ofString "bits"]⟩
def d_Y___init__ : Df := ⟨(Str.ofString "__init__"), (Str.ofString "Y.__init__"), L2.defArgs (L2.inClass (top 24) 0), L2.defBody (L2.inClass (top 24) 0), L2.defScope (L2.inClass (top 24) 0), [Str.ofString "self", Str.ofString "a"], [Str.ofString "self", Str.ofString "a"]⟩
def d_Y_word : Df := ⟨(Str.ofString "word"), (Str.ofString "Y.word"), L2.defArgs (L2.inClass (top 24) 1), L2.defBody (L2.inClass (top 24) 1), L2.defScope (L2.inClass (top 24) 1), [Str.ofString "self"], [Str.ofString "self"]⟩
def d_Y_goes : Df := ⟨(Str.ofString "goes"), (Str.ofString "Y.goes"), L2.defArgs (L2.inClass (top 24) 2), L2.defBody (L2.inClass (top 24) 2), L2.defScope (L2.inClass (top 24) 2), [Str.ofString "self", Str.ofString "bits"], [Str.ofString "self", Str.ofString "bits"]⟩
def d_Turner___init__ : Df := ⟨(Str.ofString "__init__"), (Str.ofString "Turner.__init__"), L2.defArgs (L2.inClass (top 25) 0), L2.defBody (L2.inClass (top 25) 0), L2.defScope (L2.inClass (top 25) 0), [Str.ofString "self", Str.ofString "a"], [Str.ofString "self", Str.ofString "a"]⟩
def d_Turner_turns : Df := ⟨(Str.ofString "turns"), (Str.ofString "Turner.turns"), L2.defArgs (L2.inClass (top 25) 1), L2.defBody (L2.inClass (top 25) 1), L2.defScope (L2.inClass (top 25) 1), [Str.ofString "self"], [Str.ofString "self"]⟩
def d_Turner_is_quarter : Df := ⟨(Str.ofString "is_quarter"), (Str.ofString "Turner.is_quarter"), L2.defArgs (L2.inClass (top 25) 2), L2.defBody (L2.inClass (top 25) 2), L2.defScope (L2.inClass (top 25) 2), [Str.ofString "self"], [Str.ofString "self"]⟩
def d_Turner_goes : Df := ⟨(Str.ofString "goes"), (Str.ofString "Turner.goes"), L2.defArgs (L2.inClass (top 25) 3), L2.defBody (L2.inClass (top 25) 3), L2.defScope (L2.inClass (top 25) 3), [Str.ofString "self", Str.ofString "bits"], [Str.ofString "self", Str.ofString "bits"]⟩
def d_Z_word : Df := ⟨(Str.ofString "word"), (Str.ofString "Z.word"), L2.defArgs (L2.inClass (top 26) 0), L2.defBody (L2.inClass (top 26) 0), L2.defScope (L2.inClass (top 26) 0), [Str.ofString "self"], [Str.ofString "self"]⟩
def d_Z_turns : Df := ⟨(Str.ofString "turns"), (Str.ofString "Z.turns"), L2.defArgs (L2.inClass (top 26) 1), L2.defBody (L2.inClass (top 26) 1), L2.defScope (L2.inClass (top 26) 1), [Str.ofString "self"], [Str.ofString "self"]⟩
def d_S_word : Df := ⟨(Str.ofString "word"), (Str.ofString "S.word"), L2.defArgs (L2.inClass (top 27) 0), L2.defBody (L2.inClass (top 27) 0), L2.defScope (L2.inClass (top 27) 0), [Str.ofString "self"], [Str.ofString "self"]⟩
def d_S_turns : Df := ⟨(Str.ofString "turns"), (Str.ofString "S.turns"), L2.defArgs (L2.inClass (top 27) 1), L2.defBody (L2.inClass (top 27) 1), L2.defScope (L2.inClass (top 27) 1), [Str.ofString "self"], [Str.ofString "self"]⟩
def d_S_back : Df := ⟨(Str.ofString "back"), (Str.ofString "S.back"), L2.defArgs (L2.inClass (top 27) 2), L2.defBody (L2.inClass (top 27) 2), L2.defScope (L2.inClass (top 27) 2), [Str.ofString "self"], [Str.ofString "self"]⟩
def d_R_word : Df := ⟨(Str.ofString "word"), (Str.ofString "R.word"), L2.defArgs (L2.inClass (top 28) 0), L2.defBody (L2.inClass (top 28) 0), L2.defScope (L2.inClass (top 28) 0), [Str.ofString "self"], [Str.ofString "self"]⟩
def d_R_turns : Df := ⟨(Str.ofString "turns"), (Str.ofString "R.turns"), L2.defArgs (L2.inClass (top 28) 1), L2.defBody (L2.inClass (top 28) 1), L2.defScope (L2.inClass (top 28) 1), [Str.ofString "self"], [Str.ofString "self"]⟩
def d_R_back : Df := ⟨(Str.ofString "back"), (Str.ofString "R.back"), L2.defArgs (L2.inClass (top 28) 2), L2.defBody (L2.inClass (top 28) 2), L2.defScope (L2.inClass (top 28) 2), [Str.ofString "self"], [Str.ofString "self"]⟩
def d_T_word : Df := ⟨(Str.ofString "word"), (Str.ofString "T.word"), L2.defArgs (L2.inClass (top 29) 0), L2.defBody (L2.inClass (top 29) 0), L2.defScope (L2.inClass (top 29) 0), [Str.ofString "self"], [Str.ofString "self"]⟩
def d_T_turns : Df := ⟨(Str.ofString "turns"), (Str.ofString "T.turns"), L2.defArgs (L2.inClass (top 29) 1), L2.defBody (L2.inClass (top 29) 1), L2.defScope (L2.inClass (top 29) 1), [Str.ofString "self"], [Str.ofString "self"]⟩
def d_T_back : Df := ⟨(Str.ofString "back"), (Str.ofString "T.back"), L2.defArgs (L2.inClass (top 29) 2), L2.defBody (L2.inClass (top 29) 2), L2.defScope (L2.inClass (top 29) 2), [Str.ofString "self"], [Str.ofString "self"]⟩
def d_U_word : Df := ⟨(Str.ofString "word"), (Str.ofString "U.word"), L2.defArgs (L2.inClass (top 30) 0), L2.defBody (L2.inClass (top 30) 0), L2.defScope (L2.inClass (top 30) 0), [Str.ofString "self"], [Str.ofString "self"]⟩
def d_U_turns : Df := ⟨(Str.ofString "turns"), (Str.ofString "U.turns"), L2.defArgs (L2.inClass (top 30) 1), L2.defBody (L2.inClass (top 30) 1), L2.defScope (L2.inClass (top 30) 1), [Str.ofString "self"], [Str.ofString "self"]⟩
def d_U_back : Df := ⟨(Str.ofString "back"), (Str.ofString "U.back"), L2.defArgs (L2.inClass (top 30) 2), L2.defBody (L2.inClass (top 30) 2), L2.defScope (L2.inClass (top 30) 2), [Str.ofString "self"], [Str.ofString "self"]⟩
def d_H___init__ : Df := ⟨(Str.ofString "__init__"), (Str.ofString "H.__init__"), L2.defArgs (L2.inClass (top 31) 0), L2.defBody (L2.inClass (top 31) 0), L2.defScope (L2.inClass (top 31) 0), [Str.ofString "self", Str.ofString "a"], [Str.ofString "self", Str.ofString "a"]⟩
def d_H_word : Df := ⟨(Str.ofString "word"), (Str.ofString "H.word"), L2.defArgs (L2.inClass (top 31) 1), L2.defBody (L2.inClass (top 31) 1), L2.defScope (L2.inClass (top 31) 1), [Str.ofString "self"], [Str.ofString "self"]⟩
def d_H_goes : Df := ⟨(Str.ofString "goes"), (Str.ofString "H.goes"), L2.defArgs (L2.inClass (top 31) 2), L2.defBody (L2.inClass (top 31) 2), L2.defScope (L2.inClass (top 31) 2), [Str.ofString "self", Str.ofString "bits"], [Str.ofString "self", Str.ofString "bits"]⟩
def d_Cx___init__ : Df := ⟨(Str.ofString "__init__"), (Str.ofString "Cx.__init__"), L2.defArgs (L2.inClass (top 32) 0), L2.defBody (L2.inClass (top 32) 0), L2.defScope (L2.inClass (top 32) 0), [Str.ofString "self", Str.ofString "a", Str.ofString "b"], [Str.ofString "self", Str.ofString "a", Str.ofString "b"]⟩
def d_Cx_word : Df := ⟨(Str.ofString "word"), (Str.ofString "Cx.word"), L2.defArgs (L2.inClass (top 32) 1), L2.defBody (L2.inClass (top 32) 1), L2.defScope (L2.inClass (top 32) 1), [Str.ofString "self"], [Str.ofString "self"]⟩
def d_Cx_is_bit : Df := ⟨(Str.ofString "is_bit"), (Str.ofString "Cx.is_bit"), L2.defArgs (L2.inClass (top 32) 2), L2.defBody (L2.inClass (top 32) 2), L2.defScope (L2.inClass (top 32) 2), [Str.ofString "self"], [Str.ofString "self"]⟩
def d_Cx_goes : Df := ⟨(Str.ofString "goes"), (Str.ofString "Cx.goes"), L2.defArgs (L2.inClass (top 32) 3), L2.defBody (L2.inClass (top 32) 3), L2.defScope (L2.inClass (top 32) 3), [Str.ofString "self", Str.ofString "bits"], [Str.ofString "self", Str.ofString "bits"]⟩
def d_Cz___init__ : Df := ⟨(Str.ofString "__init__"), (Str.ofString "Cz.__init__"), L2.defArgs (L2.inClass (top 33) 0), L2.defBody (L2.inClass (top 33) 0), L2.defScope (L2.inClass (top 33) 0), [Str.ofString "self", Str.ofString "a", Str.ofString "b"], [Str.ofString "self", Str.ofString "a", Str.ofString "b"]⟩
def d_Cz_word : Df := ⟨(Str.ofString "word"), (Str.ofString "Cz.word"), L2.defArgs (L2.inClass (top 33) 1), L2.defBody (L2.inClass (top 33) 1), L2.defScope (L2.inClass (top 33) 1), [Str.ofString "self"], [Str.ofString "self"]⟩
def d_Cz_goes : Df := ⟨(Str.ofString "goes"), (Str.ofString "Cz.goes"), L2.defArgs (L2.inClass (top 33) 2), L2.defBody (L2.inClass (top 33) 2), L2.defScope (L2.inClass (top 33) 2), [Str.ofString "self", Str.ofString "bits"], [Str.ofString "self", Str.ofString "bits"]⟩
def d_Swap___init__ : Df := ⟨(Str.ofString "__init__"), (Str.ofString "Swap.__init__"), L2.defArgs (L2.inClass (top 34) 0), L2.defBody (L2.inClass (top 34) 0), L2.defScope (L2.inClass (top 34) 0), [Str.ofString "self", Str.ofString "a", Str.ofString "b"], [Str.ofString "self", Str.ofString "a", Str.ofString "b"]⟩
def d_Swap_word : Df := ⟨(Str.ofString "word"), (Str.ofString "Swap.word"), L2.defArgs (L2.inClass (top 34) 1), L2.defBody (L2.inClass (top 34) 1), L2.defScope (L2.inClass (top 34) 1), [Str.ofString "self"], [Str.ofString "self"]⟩
def d_Swap_is_bit : Df := ⟨(Str.ofString "is_bit"), (Str.ofString "Swap.is_bit"), L2.defArgs (L2.inClass (top 34) 2), L2.defBody (L2.inClass (top 34) 2), L2.defScope (L2.inClass (top 34) 2), [Str.ofString "self"], [Str.ofString "self"]⟩
def d_Swap_goes : Df := ⟨(Str.ofString "goes"), (Str.ofString "Swap.goes"), L2.defArgs (L2.inClass (top 34) 3), L2.defBody (L2.inClass (top 34) 3), L2.defScope (L2.inClass (top 34) 3), [Str.ofString "self", Str.ofString "bits"], [Str.ofString "self", Str.ofString "bits"]⟩
def d_Ccx___init__ : Df := ⟨(Str.ofString "__init__"), (Str.ofString "Ccx.__init__"), L2.defArgs (L2.inClass (top 35) 0), L2.defBody (L2.inClass (top 35) 0), L2.defScope (L2.inClass (top 35) 0), [Str.ofString "self", Str.ofString "a", Str.ofString "b", Str.ofString "c"], [Str.ofString "self", Str.ofString "a", Str.ofString "b", Str.ofString "c"]⟩
def d_Ccx_word : Df := ⟨(Str.ofString "word"), (Str.ofString "Ccx.word"), L2.defArgs (L2.inClass (top 35) 1), L2.defBody (L2.inClass (top 35) 1), L2.defScope (L2.inClass (top 35) 1), [Str.ofString "self"], [Str.ofString "self"]⟩
def d_Ccx_is_bit : Df := ⟨(Str.ofString "is_bit"), (Str.ofString "Ccx.is_bit"), L2.defArgs (L2.inClass (top 35) 2), L2.defBody (L2.inClass (top 35) 2), L2.defScope (L2.inClass (top 35) 2), [Str.ofString "self"], [Str.ofString "self"]⟩
def d_Ccx_is_quarter : Df := ⟨(Str.ofString "is_quarter"), (Str.ofString "Ccx.is_quarter"), L2.defArgs (L2.inClass (top 35) 3), L2.defBody (L2.inClass (top 35) 3), L2.defScope (L2.inClass (top 35) 3), [Str.ofString "self"], [Str.ofString "self"]⟩
def d_Ccx_goes : Df := ⟨(Str.ofString "goes"), (Str.ofString "Ccx.goes"), L2.defArgs (L2.inClass (top 35) 4), L2.defBody (L2.inClass (top 35) 4), L2.defScope (L2.inClass (top 35) 4), [Str.ofString "self", Str.ofString "bits"], [Str.ofString "self", Str.ofString "bits"]⟩
def d_single : Df := ⟨(Str.ofString "single"), (Str.ofString "single"), L2.defArgs (top 36), L2.defBody (top 36), L2.defScope (top 36), [Str.ofString "word", Str.ofString "wire"], [Str.ofString "word", Str.ofString "wire"]⟩
def d_gate_of : Df := ⟨(Str.ofString "gate_of"), (Str.ofString "gate_of"), L2.defArgs (top 37), L2.defBody (top 37), L2.defScope (top 37), [Str.ofString "word", Str.ofString "wires", Str.ofString "singles"], [Str.ofString "word", Str.ofString "wires"]⟩
def d__law_next : Df := ⟨(Str.ofString "_law_next"), (Str.ofString "_law_next"), L2.defArgs (top 39), L2.defBody (top 39), L2.defScope (top 39), [Str.ofString "_law_state_here", Str.ofString "_law_many"], [Str.ofString "_law_state_here", Str.ofString "_law_many"]⟩
def d__law_cell : Df := ⟨(Str.ofString "_law_cell"), (Str.ofString "_law_cell"), L2.defArgs (top 40), L2.defBody (top 40), L2.defScope (top 40), [Str.ofString "_law_script", Str.ofString "_law_k"], [Str.ofString "_law_script", Str.ofString "_law_k"]⟩
def d__law_state : Df := ⟨(Str.ofString "_law_state"), (Str.ofString "_law_state"), L2.defArgs (top 41), L2.defBody (top 41), L2.defScope (top 41), [Str.ofString "_law_cell_here", Str.ofString "_law_k", Str.ofString "_law_mixed"], [Str.ofString "_law_cell_here", Str.ofString "_law_k"]⟩
def d__law_drawn_gate : Df := ⟨(Str.ofString "_law_drawn_gate"), (Str.ofString "_law_drawn_gate"), L2.defArgs (top 42), L2.defBody (top 42), L2.defScope (top 42), [Str.ofString "_law_state_here", Str.ofString "_law_many", Str.ofString "_law_words", Str.ofString "_law_word", Str.ofString "_law_wires", Str.ofString "_law_found", Str.ofString "_law_k"], [Str.ofString "_law_state_here", Str.ofString "_law_many"]⟩
def d__law_made : Df := ⟨(Str.ofString "_law_made"), (Str.ofString "_law_made"), L2.defArgs (top 43), L2.defBody (top 43), L2.defScope (top 43), [Str.ofString "_law_word", Str.ofString "_law_wires"], [Str.ofString "_law_word", Str.ofString "_law_wires"]⟩
def d__law_other : Df := ⟨(Str.ofString "_law_other"), (Str.ofString "_law_other"), L2.defArgs (top 44), L2.defBody (top 44), L2.defScope (top 44), [Str.ofString "_law_word", Str.ofString "_law_wires"], [Str.ofString "_law_word", Str.ofString "_law_wires"]⟩
def d__law_right : Df := ⟨(Str.ofString "_law_right"), (Str.ofString "_law_right"), L2.defArgs (top 45), L2.defBody (top 45), L2.defScope (top 45), [Str.ofString "_law_gate", Str.ofString "_law_word", Str.ofString "_law_wires", Str.ofString "_law_bit", Str.ofString "_law_quarter", Str.ofString "_law_back", Str.ofString "_law_wire"], [Str.ofString "_law_gate", Str.ofString "_law_word", Str.ofString "_law_wires"]⟩
def d__law_refused : Df := ⟨(Str.ofString "_law_refused"), (Str.ofString "_law_refused"), L2.defArgs (top 46), L2.defBody (top 46), L2.defScope (top 46), [Str.ofString "_law_word", Str.ofString "_law_wires", Str.ofString "_law_error", Str.ofString "e"], [Str.ofString "_law_word", Str.ofString "_law_wires"]⟩
def d__law_class_refused : Df := ⟨(Str.ofString "_law_class_refused"), (Str.ofString "_law_class_refused"), L2.defArgs (top 47), L2.defBody (top 47), L2.defScope (top 47), [Str.ofString "_law_word", Str.ofString "_law_wires", Str.ofString "_law_error", Str.ofString "e"], [Str.ofString "_law_word", Str.ofString "_law_wires"]⟩
def d_law : Df := ⟨(Str.ofString "law"), (Str.ofString "law"), L2.defArgs (top 48), L2.defBody (top 48), L2.defScope (top 48), [Str.ofString "_law_script", Str.ofString "_law_k", Str.ofString "_law_state_here", Str.ofString "_law_word", Str.ofString "_law_wires", Str.ofString "_law_odd", Str.ofString "_law_at", Str.ofString "_law_wrong", Str.ofString "_law_none"], [Str.ofString "_law_script"]⟩
def ds : List Row := [(2, ((Str.ofString "is_whole"), none), d_is_whole, c_is_whole),
  (3, ((Str.ofString "lowest"), none), d_lowest, c_lowest),
  (4, ((Str.ofString "is_eighth"), none), d_is_eighth, c_is_eighth),
  (5, ((Str.ofString "rooted"), none), d_rooted, c_rooted),
  (6, ((Str.ofString "plus"), none), d_plus, c_plus),
  (9, ((Str.ofString "turned"), none), d_turned, c_turned),
  (10, ((Str.ofString "over_root"), none), d_over_root, c_over_root),
  (17, ((Str.ofString "State"), some (Str.ofString "__init__")), d_State___init__, c_State___init__),
  (18, ((Str.ofString "State"), some (Str.ofString "many")), d_State_many, c_State_many),
  (19, ((Str.ofString "State"), some (Str.ofString "eighths")), d_State_eighths, c_State_eighths),
  (25, ((Str.ofString "Gate"), some (Str.ofString "__init__")), d_Gate___init__, c_Gate___init__),
  (26, ((Str.ofString "Gate"), some (Str.ofString "wires")), d_Gate_wires, c_Gate_wires),
  (27, ((Str.ofString "Gate"), some (Str.ofString "word")), d_Gate_word, c_Gate_word),
  (28, ((Str.ofString "Gate"), some (Str.ofString "text")), d_Gate_text, c_Gate_text),
  (29, ((Str.ofString "Gate"), some (Str.ofString "back")), d_Gate_back, c_Gate_back),
  (30, ((Str.ofString "Gate"), some (Str.ofString "is_bit")), d_Gate_is_bit, c_Gate_is_bit),
  (31, ((Str.ofString "Gate"), some (Str.ofString "is_quarter")), d_Gate_is_quarter, c_Gate_is_quarter),
  (32, ((Str.ofString "Gate"), some (Str.ofString "goes")), d_Gate_goes, c_Gate_goes),
  (33, ((Str.ofString "Gate"), some (Str.ofString "on")), d_Gate_on, c_Gate_on),
  (34, ((Str.ofString "put_bits"), none), d_put_bits, c_put_bits),
  (35, ((Str.ofString "X"), some (Str.ofString "__init__")), d_X___init__, c_X___init__),
  (36, ((Str.ofString "X"), some (Str.ofString "word")), d_X_word, c_X_word),
  (37, ((Str.ofString "X"), some (Str.ofString "is_bit")), d_X_is_bit, c_X_is_bit),
  (38, ((Str.ofString "X"), some (Str.ofString "goes")), d_X_goes, c_X_goes),
  (39, ((Str.ofString "Y"), some (Str.ofString "__init__")), d_Y___init__, c_Y___init__),
  (40, ((Str.ofString "Y"), some (Str.ofString "word")), d_Y_word, c_Y_word),
  (41, ((Str.ofString "Y"), some (Str.ofString "goes")), d_Y_goes, c_Y_goes),
  (42, ((Str.ofString "Turner"), some (Str.ofString "__init__")), d_Turner___init__, c_Turner___init__),
  (43, ((Str.ofString "Turner"), some (Str.ofString "turns")), d_Turner_turns, c_Turner_turns),
  (44, ((Str.ofString "Turner"), some (Str.ofString "is_quarter")), d_Turner_is_quarter, c_Turner_is_quarter),
  (45, ((Str.ofString "Turner"), some (Str.ofString "goes")), d_Turner_goes, c_Turner_goes),
  (46, ((Str.ofString "Z"), some (Str.ofString "word")), d_Z_word, c_Z_word),
  (47, ((Str.ofString "Z"), some (Str.ofString "turns")), d_Z_turns, c_Z_turns),
  (48, ((Str.ofString "S"), some (Str.ofString "word")), d_S_word, c_S_word),
  (49, ((Str.ofString "S"), some (Str.ofString "turns")), d_S_turns, c_S_turns),
  (50, ((Str.ofString "S"), some (Str.ofString "back")), d_S_back, c_S_back),
  (51, ((Str.ofString "R"), some (Str.ofString "word")), d_R_word, c_R_word),
  (52, ((Str.ofString "R"), some (Str.ofString "turns")), d_R_turns, c_R_turns),
  (53, ((Str.ofString "R"), some (Str.ofString "back")), d_R_back, c_R_back),
  (54, ((Str.ofString "T"), some (Str.ofString "word")), d_T_word, c_T_word),
  (55, ((Str.ofString "T"), some (Str.ofString "turns")), d_T_turns, c_T_turns),
  (56, ((Str.ofString "T"), some (Str.ofString "back")), d_T_back, c_T_back),
  (57, ((Str.ofString "U"), some (Str.ofString "word")), d_U_word, c_U_word),
  (58, ((Str.ofString "U"), some (Str.ofString "turns")), d_U_turns, c_U_turns),
  (59, ((Str.ofString "U"), some (Str.ofString "back")), d_U_back, c_U_back),
  (60, ((Str.ofString "H"), some (Str.ofString "__init__")), d_H___init__, c_H___init__),
  (61, ((Str.ofString "H"), some (Str.ofString "word")), d_H_word, c_H_word),
  (62, ((Str.ofString "H"), some (Str.ofString "goes")), d_H_goes, c_H_goes),
  (63, ((Str.ofString "Cx"), some (Str.ofString "__init__")), d_Cx___init__, c_Cx___init__),
  (64, ((Str.ofString "Cx"), some (Str.ofString "word")), d_Cx_word, c_Cx_word),
  (65, ((Str.ofString "Cx"), some (Str.ofString "is_bit")), d_Cx_is_bit, c_Cx_is_bit),
  (66, ((Str.ofString "Cx"), some (Str.ofString "goes")), d_Cx_goes, c_Cx_goes),
  (67, ((Str.ofString "Cz"), some (Str.ofString "__init__")), d_Cz___init__, c_Cz___init__),
  (68, ((Str.ofString "Cz"), some (Str.ofString "word")), d_Cz_word, c_Cz_word),
  (69, ((Str.ofString "Cz"), some (Str.ofString "goes")), d_Cz_goes, c_Cz_goes),
  (70, ((Str.ofString "Swap"), some (Str.ofString "__init__")), d_Swap___init__, c_Swap___init__),
  (71, ((Str.ofString "Swap"), some (Str.ofString "word")), d_Swap_word, c_Swap_word),
  (72, ((Str.ofString "Swap"), some (Str.ofString "is_bit")), d_Swap_is_bit, c_Swap_is_bit),
  (73, ((Str.ofString "Swap"), some (Str.ofString "goes")), d_Swap_goes, c_Swap_goes),
  (74, ((Str.ofString "Ccx"), some (Str.ofString "__init__")), d_Ccx___init__, c_Ccx___init__),
  (75, ((Str.ofString "Ccx"), some (Str.ofString "word")), d_Ccx_word, c_Ccx_word),
  (76, ((Str.ofString "Ccx"), some (Str.ofString "is_bit")), d_Ccx_is_bit, c_Ccx_is_bit),
  (77, ((Str.ofString "Ccx"), some (Str.ofString "is_quarter")), d_Ccx_is_quarter, c_Ccx_is_quarter),
  (78, ((Str.ofString "Ccx"), some (Str.ofString "goes")), d_Ccx_goes, c_Ccx_goes),
  (79, ((Str.ofString "single"), none), d_single, c_single),
  (80, ((Str.ofString "gate_of"), none), d_gate_of, c_gate_of),
  (1000, ((Str.ofString "_law_next"), none), d__law_next, c__law_next),
  (1001, ((Str.ofString "_law_cell"), none), d__law_cell, c__law_cell),
  (1002, ((Str.ofString "_law_state"), none), d__law_state, c__law_state),
  (1003, ((Str.ofString "_law_drawn_gate"), none), d__law_drawn_gate, c__law_drawn_gate),
  (1004, ((Str.ofString "_law_made"), none), d__law_made, c__law_made),
  (1005, ((Str.ofString "_law_other"), none), d__law_other, c__law_other),
  (1006, ((Str.ofString "_law_right"), none), d__law_right, c__law_right),
  (1007, ((Str.ofString "_law_refused"), none), d__law_refused, c__law_refused),
  (1008, ((Str.ofString "_law_class_refused"), none), d__law_class_refused, c__law_class_refused),
  (1009, ((Str.ofString "law"), none), d_law, c_law)]
abbrev R : PySem.W.OpenRow := PySem.W.OpenLaw.row PySem.Challenge.rw_bothwire_k32_gates_told
def loose0 : List Str := [(Str.ofString "_wall"), (Str.ofString "__name__"), (Str.ofString "WireError"), (Str.ofString "NoNumber"), (Str.ofString "NoState"), (Str.ofString "NoGate"), (Str.ofString "NoWire"), (Str.ofString "is_whole"), (Str.ofString "lowest"), (Str.ofString "is_eighth"), (Str.ofString "rooted"), (Str.ofString "plus"), (Str.ofString "turned"), (Str.ofString "over_root"), (Str.ofString "SIZES"), (Str.ofString "NOUGHT"), (Str.ofString "State"), (Str.ofString "MOST_WIRE"), (Str.ofString "Gate"), (Str.ofString "put_bits"), (Str.ofString "X"), (Str.ofString "Y"), (Str.ofString "Turner"), (Str.ofString "Z"), (Str.ofString "S"), (Str.ofString "R"), (Str.ofString "T"), (Str.ofString "U"), (Str.ofString "H"), (Str.ofString "Cx")]
def loose1 : List Str := [(Str.ofString "Cz"), (Str.ofString "Swap"), (Str.ofString "Ccx"), (Str.ofString "single"), (Str.ofString "gate_of"), (Str.ofString "_law_next"), (Str.ofString "_law_cell"), (Str.ofString "_law_state"), (Str.ofString "_law_drawn_gate"), (Str.ofString "_law_made"), (Str.ofString "_law_other"), (Str.ofString "_law_right"), (Str.ofString "_law_refused"), (Str.ofString "_law_class_refused")]
def loose : List Str := loose0 ++ loose1
def lawIx : Nat := 48
--RUNS
open PySem PySem.W PySem.Calls PyProof.Rows in
set_option maxHeartbeats 0 in
theorem run0 (w : World) (os : OsState) : (HandSHeadRun.endF (HandSHeadRun.stepQ (HandSHeadRun.denQ HandSHeadRun.tabQ) R.prog w) 30000 R.prog w os).map (fun s => (HandSHeadRun.looksF R.prog (boot_heap w.params) s.abs, HandSHeadRun.seenQ (PySem.W.view R.prog [48]) loose (importedModules R.prog.main.body) (fun s => xlAt (PySem.W.view R.prog [48]) [] s && recOk R.toRowW.records s) s.abs)) = some (true, openGood (PySem.W.view R.prog [48]) loose) := by
  kernel_rfl
set_option maxHeartbeats 0 in
theorem runA (w : World) (os : OsState) : (HandSHeadRun.endF (HandSHeadRun.stepQ (HandSHeadRun.denQ HandSHeadRun.tabQ) R.prog w) 30000 R.prog w os).map (onK 4 (oA S)) = some true := by
  kernel_rfl
set_option maxHeartbeats 0 in
theorem runB (w : World) (os : OsState) : (HandSHeadRun.endF (HandSHeadRun.stepQ (HandSHeadRun.denQ HandSHeadRun.tabQ) R.prog w) 30000 R.prog w os).map (onK 4 (oB S)) = some true := by
  kernel_rfl
set_option maxHeartbeats 0 in
theorem runC (w : World) (os : OsState) : (HandSHeadRun.endF (HandSHeadRun.stepQ (HandSHeadRun.denQ HandSHeadRun.tabQ) R.prog w) 30000 R.prog w os).map (onK 4 (oC S)) = some true := by
  kernel_rfl
set_option maxHeartbeats 0 in
theorem runD (w : World) (os : OsState) : (HandSHeadRun.endF (HandSHeadRun.stepQ (HandSHeadRun.denQ HandSHeadRun.tabQ) R.prog w) 30000 R.prog w os).map (onK 4 (oD (ds.map rowD))) = some true := by
  kernel_rfl
set_option maxHeartbeats 0 in
theorem runE (w : World) (os : OsState) : (HandSHeadRun.endF (HandSHeadRun.stepQ (HandSHeadRun.denQ HandSHeadRun.tabQ) R.prog w) 30000 R.prog w os).map (onK 4 (oE (ds.map rowD))) = some ((ds.map rowD).map He.DefD.val) := by
  kernel_rfl
end Dv.Hd
end
section
set_option Elab.async false
set_option maxRecDepth 100000
set_option linter.all false
/-! Judgements; operations on values -/
namespace Dv
open PySem PySem.Spec L2

/-- what is wanted of e so that Q holds behind it -/
def tw (X : Cx) (e : Expr) : TE := fun σ H Q => ∀ (pins : List (Addr × Obj)) (s : Shared), Inv X pins σ H s → wpAny (model X.prog X.w) X.A (eval e X.env) (EP X pins σ Q) X.xe s
theorem pe_tw {X : Cx} {e : Expr} : PE X e (tw X e) := ⟨fun pins s σ H Q I h => h pins s I⟩
theorem tw_of {X : Cx} {e : Expr} {t : TE} {σ : St} {H : Hp} {Q : VK} (p : PE X e t) (h : t σ H Q) : tw X e σ H Q := fun pins s I => p.run pins s σ H Q I h
def twT (X : Cx) (e : Expr) : TT := fun σ H Q => ∀ (pins : List (Addr × Obj)) (s : Shared), Inv X pins σ H s → wpAny (model X.prog X.w) X.A (isTrue e X.env (eval e X.env)) (TP X pins σ Q) X.xe s
theorem pt_twT {X : Cx} {e : Expr} : PT X e (twT X e) := ⟨fun pins s σ H Q I h => h pins s I⟩
theorem twT_of {X : Cx} {e : Expr} {t : TT} {σ : St} {H : Hp} {Q : Bool → Hp → Prop} (p : PT X e t) (h : t σ H Q) : twT X e σ H Q := fun pins s I => p.run pins s σ H Q I h
def twA (X : Cx) (es : List Expr) : TA := fun σ H Q => ∀ (pos : Pos) (pins : List (Addr × Obj)) (s : Shared), Inv X pins σ H s → wpAny (model X.prog X.w) X.A (spliced (PySem.backTo pos (starEach es X.env))) (AP X pins σ Q) X.xe s
theorem pa_twA {X : Cx} {es : List Expr} : PA X es (twA X es) := ⟨fun pos pins s σ H Q I h => h pos pins s I⟩
theorem twA_of {X : Cx} {es : List Expr} {t : TA} {σ : St} {H : Hp} {Q : List V → Hp → Prop} (p : PA X es t) (h : t σ H Q) : twA X es σ H Q := fun pos pins s I => p.run pos pins s σ H Q I h
def twS (X : Cx) (st : Stmt) : TS := fun D σ H => ∀ (pins : List (Addr × Obj)) (s : Shared), Inv X pins σ H s → wpAny (model X.prog X.w) X.A (exec st X.env) (SP X pins D) X.xe s
theorem ps_twS {X : Cx} {st : Stmt} : PS X st (twS X st) := ⟨fun pins s σ H D I h => h pins s I⟩
theorem twS_of {X : Cx} {st : Stmt} {t : TS} {σ : St} {H : Hp} {D : Ends} (p : PS X st t) (h : t D σ H) : twS X st D σ H := fun pins s I => p.run pins s σ H D I h
def twSs (X : Cx) (st : List Stmt) : TS := fun D σ H => ∀ (pins : List (Addr × Obj)) (s : Shared), Inv X pins σ H s → wpAny (model X.prog X.w) X.A (execs st X.env) (SP X pins D) X.xe s
theorem pss_twSs {X : Cx} {st : List Stmt} : PSs X st (twSs X st) := ⟨fun pins s σ H D I h => h pins s I⟩
theorem twSs_of {X : Cx} {st : List Stmt} {t : TS} {σ : St} {H : Hp} {D : Ends} (p : PSs X st t) (h : t D σ H) : twSs X st D σ H := fun pins s I => p.run pins s σ H D I h
/-- an operation on two values, on one; a call of a known value; a method -/
def rU (X : Cx) (f : Value → Value → Sem Value) : R2 := fun x y H Q => ∀ (pins : List (Addr × Obj)) (s : Shared) (σ : St) (v u : Value), Inv X pins σ H s → RelV x v → RelV y u → wpAny (model X.prog X.w) X.A (f v u) (EP X pins σ Q) X.xe s
theorem rU_ok {X : Cx} {f : Value → Value → Sem Value} : OpR X f (rU X f) := fun pins s σ H x y v u Q I rx ry h => h pins s σ v u I rx ry
theorem rU_of {X : Cx} {f : Value → Value → Sem Value} {r : R2} {x y : V} {H : Hp} {Q : VK} (h : OpR X f r) (q : r x y H Q) : rU X f x y H Q := fun pins s σ v u I rx ry => h pins s σ H x y v u Q I rx ry q
def uU (X : Cx) (f : Value → Sem Value) : V → Hp → VK → Prop := fun x H Q => ∀ (pins : List (Addr × Obj)) (s : Shared) (σ : St) (v : Value), Inv X pins σ H s → RelV x v → wpAny (model X.prog X.w) X.A (f v) (EP X pins σ Q) X.xe s
theorem uU_ok {X : Cx} {f : Value → Sem Value} : UnR X f (uU X f) := fun pins s σ H x v Q I rx h => h pins s σ v I rx
theorem uU_of {X : Cx} {f : Value → Sem Value} {r : V → Hp → VK → Prop} {x : V} {H : Hp} {Q : VK} (h : UnR X f r) (q : r x H Q) : uU X f x H Q := fun pins s σ v I rx => h pins s σ H x v Q I rx q
def cU (X : Cx) (f : Value) : List V → Hp → VK → Prop := fun xs H Q => ∀ (pins : List (Addr × Obj)) (s : Shared) (σ : St) (us : List Value), Inv X pins σ H s → Vals xs us → wpAny (model X.prog X.w) X.A (call f us) (EP X pins σ Q) X.xe s
theorem cU_ok {X : Cx} {f : Value} : CallR X f (cU X f) := fun pins s σ H xs us Q I r h => h pins s σ us I r
theorem cU_of {X : Cx} {f : Value} {r : List V → Hp → VK → Prop} {xs : List V} {H : Hp} {Q : VK} (h : CallR X f r) (q : r xs H Q) : cU X f xs H Q := fun pins s σ us I rs => h pins s σ H xs us Q I rs q
def mU (X : Cx) (id : String) : V → List V → Hp → VK → Prop := fun x xs H Q => ∀ (pins : List (Addr × Obj)) (s : Shared) (σ : St) (v : Value) (us : List Value), Inv X pins σ H s → RelV x v → Vals xs us → wpAny (model X.prog X.w) X.A (call (.builtin id) (v :: us)) (EP X pins σ Q) X.xe s
theorem mU_ok {X : Cx} {id : String} : MtR X id (mU X id) := fun pins s σ H x xs v us Q I rx rs h => h pins s σ v us I rx rs
theorem mU_of {X : Cx} {id : String} {r : V → List V → Hp → VK → Prop} {x : V} {xs : List V} {H : Hp} {Q : VK} (h : MtR X id r) (q : r x xs H Q) : mU X id x xs H Q := fun pins s σ v us I rx rs => h pins s σ H x xs v us Q I rx rs q
def iU (X : Cx) : R2 := fun x y H Q => ∀ (pins : List (Addr × Obj)) (s : Shared) (σ : St) (v u : Value) (a b : Expr) (pos : Pos), True → True
end Dv
end
section
set_option Elab.async false
set_option maxRecDepth 100000
set_option linter.all false
/-! Operations on values -/
namespace Dv
open PySem PySem.Spec L2

structure Ctx (T : Tb) (X : Cx) : Prop where
  K : X.K = T.K
  calm : X.calm = true
  nd : X.N.Nodup
  un : X.A.units + 65 < cLine

/-- what is made of z: the same state, or one object more -/
def Out1 (T : Tb) (F H : Hp) (w : Wn) (σ : St) (ρ : En) (z : FV) (Q : VK) : Prop := ∀ F' H' v, Ok T F' H' w σ ρ → Sp2 F H w F' H' w → TvOk T H F' H' w z v → Q v H'
section
variable {T : Tb} {F H : Hp} {w : Wn} {σ : St} {ρ : En} {Q : VK} {X : Cx}
theorem out_pure {d : D} {v : V} (O : Ok T F H w σ ρ) (q : Out1 T F H w σ ρ (.dat d) Q) (r : Rep T F d v) : Q v H := q F H v O Sp2.refl r
theorem out_newT {ds : List D} {vs : List V} (O : Ok T F H w σ ρ) (q : Out1 T F H w σ ρ (.dat (.tup ds)) Q) (r : Reps T F ds vs) (p : Addr) (hp : H p = none) : Q (.ref p) (upd H p (.tup vs)) := by
  obtain ⟨O', s'⟩ := newF_ok (o := .tup vs) O Sp2.refl hp
  exact q _ _ _ O' s' ⟨p, vs, rfl, .inl (.inl upd_same), Reps.mono s'.ext ds vs r⟩
theorem out_newL {ds : List D} {vs : List V} (O : Ok T F H w σ ρ) (q : Out1 T F H w σ ρ (.lst ds) Q) (r : Reps T F ds vs) (p : Addr) (hp : H p = none) : Q (.ref p) (upd H p (.lst vs)) := by
  obtain ⟨O', s', hf, hw, h0⟩ := newH_ok (o := .lst vs) O Sp2.refl hp
  exact q _ _ _ O' s' ⟨p, vs, rfl, hp, hw, hf, upd_same, r⟩
theorem sz_le {n : Nat} (h : sz n = true) : n ≤ sizeLine := by
  have : n ≤ 16000000 := of_decide_eq_true h
  rw [sizeLine_eq]
  omega
theorem Reps.nil_iff {ds : List D} {vs : List V} (h : Reps T F ds vs) : vs = [] ↔ ds = [] := by
  have := h.len
  constructor
  · rintro rfl
    exact List.length_eq_zero_iff.mp this.symm
  · rintro rfl
    exact List.length_eq_zero_iff.mp this
theorem Reps.rep {ds : List D} {vs : List V} (h : Reps T F ds vs) : ∀ n : Nat, Reps T F (List.replicate n ds).flatten (List.replicate n vs).flatten
  | 0 => rfl
  | n + 1 => by
    rw [List.replicate_succ, List.replicate_succ, List.flatten_cons, List.flatten_cons]
    exact h.append (Reps.rep h n)
theorem mulOk_ok {i j : Int} (h : mulOk i j = true) : CMul i j ∨ CMulW i j := by
  unfold mulOk at h
  simp only [Bool.or_eq_true, decide_eq_true_eq] at h
  rcases h with (h | h) | h
  · exact .inl (.inl (by omega))
  · exact .inl (.inr (by omega))
  · exact .inr h
theorem bo_ok (c : Ctx T X) (O : Ok T F H w σ ρ) {o : Operator} {x y z : FV} {v u : V} (cx : Cn T F H x v) (cy : Cn T F H y u) (h : bo o x.frz y.frz = some z) (q : Out1 T F H w σ ρ z Q) : rU X (binaryOp o) v u H Q := by
  generalize ea : x.frz = a at h
  generalize eb : y.frz = b at h
  unfold bo at h
  split at h
  · cases h
    rw [cx.int ea, cy.int eb]
    exact rU_of op_add ⟨_, _, rfl, rfl, out_pure O q rfl⟩
  · cases h
    rw [cx.int ea, cy.int eb]
    exact rU_of op_sub ⟨_, _, rfl, rfl, out_pure O q rfl⟩
  · split at h <;> cases h
    rename_i hm
    rw [cx.int ea, cy.int eb]
    rcases mulOk_ok hm with hm | hm
    · exact rU_of op_mul ⟨_, _, rfl, rfl, hm, out_pure O q rfl⟩
    · exact rU_of op_mulW ⟨_, _, rfl, rfl, hm, out_pure O q rfl⟩
  · split at h <;> cases h
    rename_i hm
    rw [cx.int ea, cy.int eb]
    exact rU_of op_fdiv ⟨_, _, rfl, rfl, (by simp only [CDiv, CPow, CShl, Bool.and_eq_true, decide_eq_true_eq] at hm ⊢; omega), out_pure O q rfl⟩
  · split at h <;> cases h
    rename_i hm
    rw [cx.int ea, cy.int eb]
    exact rU_of op_mod ⟨_, _, rfl, rfl, (by simp only [CDiv, CPow, CShl, Bool.and_eq_true, decide_eq_true_eq] at hm ⊢; omega), out_pure O q rfl⟩
  · split at h <;> cases h
    rename_i hm
    rw [cx.int ea, cy.int eb]
    exact rU_of op_pow ⟨_, _, rfl, rfl, (by simp only [CDiv, CPow, CShl, Bool.and_eq_true, decide_eq_true_eq] at hm ⊢; omega), out_pure O q rfl⟩
  · split at h <;> cases h
    rename_i hm
    rw [cx.int ea, cy.int eb]
    exact rU_of op_shlW ⟨_, _, rfl, rfl, (by simp only [CDiv, CPow, CShl, Bool.and_eq_true, decide_eq_true_eq] at hm ⊢; omega), out_pure O q rfl⟩
  · split at h <;> cases h
    rename_i hm
    rw [cx.int ea, cy.int eb]
    exact rU_of op_shr ⟨_, _, rfl, rfl, (by simp only [CDiv, CPow, CShl, Bool.and_eq_true, decide_eq_true_eq] at hm ⊢; omega), out_pure O q rfl⟩
  · cases h
    rw [cx.int ea, cy.int eb]
    exact rU_of op_and ⟨_, _, rfl, rfl, out_pure O q rfl⟩
  · cases h
    rw [cx.int ea, cy.int eb]
    exact rU_of op_or ⟨_, _, rfl, rfl, out_pure O q rfl⟩
  · cases h
    rw [cx.int ea, cy.int eb]
    exact rU_of op_xor ⟨_, _, rfl, rfl, out_pure O q rfl⟩
  · split at h <;> cases h
    rename_i hm
    rw [cx.str ea, cy.str eb]
    exact rU_of op_add_str ⟨_, _, rfl, rfl, sz_le hm, out_pure O q rfl⟩
  · split at h <;> cases h
    rename_i hm
    obtain ⟨a1, vs1, rfl, h1, r1⟩ := cx.list O.sub ea
    obtain ⟨a2, vs2, rfl, h2, r2⟩ := cy.list O.sub eb
    exact rU_of op_cat ⟨_, _, _, _, rfl, rfl, h1, h2, by rw [r1.len, r2.len]; exact sz_le hm, out_newL O q (r1.append r2)⟩
  · split at h <;> cases h
    rename_i hm
    obtain ⟨a1, vs1, rfl, h1, r1⟩ := cx.tup O.sub ea
    obtain ⟨a2, vs2, rfl, h2, r2⟩ := cy.tup O.sub eb
    rw [← c.K] at h1 h2
    refine rU_of op_catA ⟨_, _, _, _, rfl, rfl, O.sub.t h1, O.sub.t h2, by rw [r1.len, r2.len]; exact sz_le hm, fun e => ?_, fun _ e => ?_, fun _ _ => out_newT O q (r1.append r2)⟩
    · rw [r1.nil_iff] at e
      subst e
      exact out_pure O q ⟨a2, vs2, rfl, by rw [← c.K]; exact h2, r2⟩
    · rw [r2.nil_iff] at e
      subst e
      rw [List.append_nil] at q
      exact out_pure O q ⟨a1, vs1, rfl, by rw [← c.K]; exact h1, r1⟩
  · split at h <;> cases h
    rename_i hm
    rw [Bool.and_eq_true] at hm
    obtain ⟨a1, vs1, rfl, h1, r1⟩ := cx.list O.sub ea
    rw [cy.int eb]
    have hk0 := of_decide_eq_true hm.1
    exact rU_of op_rep ⟨_, _, _, rfl, rfl, h1, by omega, by omega, by rw [r1.len]; exact sz_le hm.2, out_newL O q (r1.rep _)⟩
  · split at h <;> cases h
    rename_i hm
    rw [Bool.and_eq_true, Bool.and_eq_true, Bool.and_eq_true] at hm
    obtain ⟨a1, vs1, rfl, h1, r1⟩ := cx.tup O.sub ea
    rw [cy.int eb]
    rw [← c.K] at h1
    have hk0 := of_decide_eq_true hm.1
    have hk1 := of_decide_eq_true hm.2.1
    exact rU_of op_repT ⟨_, _, _, rfl, rfl, O.sub.t h1, fun z => by rw [r1.nil_iff] at z; subst z; exact absurd hm.2.2.1 (by decide), hk0, by omega, by rw [r1.len]; exact of_decide_eq_true hm.2.2.2, out_newT O q (r1.rep _)⟩
  · cases h
theorem uo_ok (O : Ok T F H w σ ρ) {o : UnaryOp} {x z : FV} {v : V} (cx : Cn T F H x v) (h : uo o x.frz = some z) (q : Out1 T F H w σ ρ z Q) : uU X (unaryOp o) v H Q := by
  generalize ea : x.frz = a at h
  unfold uo at h
  split at h
  · cases h
    rw [cx.int ea]
    exact uU_of un_neg ⟨_, rfl, out_pure O q rfl⟩
  · cases h
    rw [cx.int ea]
    exact uU_of un_inv ⟨_, rfl, out_pure O q rfl⟩
  · cases h

/-! ### comparisons -/
mutual
theorem rep_dp : ∀ {x : D} {v : V} {p : PyData}, x.py = some p → Rep T F x v → Dp T.K F v p
  | .non, v, p, h, r => by
    cases h
    rw [show v = .non from r]
    exact .non
  | .bl b, v, p, h, r => by
    cases h
    rw [show v = .bl b from r]
    exact .bl b
  | .int b, v, p, h, r => by
    cases h
    rw [show v = .int b from r]
    exact .int b
  | .str b, v, p, h, r => by
    cases h
    rw [show v = .str b from r]
    exact .str b
  | .tup ds, v, p, h, r => by
    obtain ⟨a, vs, rfl, s, q⟩ := r
    have h' : (pys ds).map PyData.tuple = some p := h
    cases e : pys ds with
    | none => rw [e] at h'; cases h'
    | some ps =>
      rw [e] at h'
      cases h'
      exact .tup s (reps_dp e q)
  | .lst ds, v, p, h, r => by
    obtain ⟨a, vs, rfl, s, q⟩ := r
    have h' : (pys ds).map PyData.list = some p := h
    cases e : pys ds with
    | none => rw [e] at h'; cases h'
    | some ps =>
      rw [e] at h'
      cases h'
      exact .lst (.inl (.inl s)) (reps_dp e q)
theorem reps_dp : ∀ {x : List D} {v : List V} {p : List PyData}, pys x = some p → Reps T F x v → DpAll T.K F v p
  | [], v, p, h, r => by
    cases h
    rw [show v = [] from r]
    exact .nil
  | d :: ds, v, p, h, r => by
    obtain ⟨u, vs, rfl, q, s⟩ := r
    unfold pys at h
    split at h
    · rename_i e1 e2
      cases h
      exact .cons (rep_dp e1 q) (reps_dp e2 s)
    · cases h
end
theorem Cn.dp (O : Ok T F H w σ ρ) {x : FV} {v : V} {p : PyData} (c : Cn T F H x v) (h : x.frz.py = some p) : Dp T.K H v p := rep_dp h (c.rep O.sub)
theorem op_eqNil (hu : X.A.units < cLine) : OpR X (compareOp .Eq) (fun x y H Q => ∃ a b z zs, x = V.ref a ∧ y = V.ref b ∧ SqL X.K H a (z :: zs) ∧ SqL X.K H b [] ∧ Q (.bl false) H) := by
  intro pins s σ H x y v u Q I rx ry h
  obtain ⟨a, b, z, zs, rfl, rfl, h1, h2, q⟩ := h
  cases rx
  cases ry
  obtain ⟨its, r, pl, hz⟩ := I.list h1
  obtain ⟨its2, r2, pl2, hz2⟩ := I.list h2
  have e1 := r.length
  have e2 := r2.length
  rw [List.length_cons] at e1
  rw [List.length_nil] at e2
  exact SeqAt.RcAt.lists_lengths pl.isList pl2.isList (by simp only [List.size_toArray, bne_iff_ne]; omega) hu X.prog X.w X.xe _ ⟨.bl false, H, I, rfl, q⟩
theorem op_neNil (hu : X.A.units < cLine) : OpR X (compareOp .NotEq) (fun x y H Q => ∃ a b z zs, x = V.ref a ∧ y = V.ref b ∧ SqL X.K H a (z :: zs) ∧ SqL X.K H b [] ∧ Q (.bl true) H) := by
  intro pins s σ H x y v u Q I rx ry h
  obtain ⟨a, b, z, zs, rfl, rfl, h1, h2, q⟩ := h
  cases rx
  cases ry
  obtain ⟨its, r, pl, hz⟩ := I.list h1
  obtain ⟨its2, r2, pl2, hz2⟩ := I.list h2
  have e1 := r.length
  have e2 := r2.length
  rw [List.length_cons] at e1
  rw [List.length_nil] at e2
  exact SeqAt.RcNeAt.lists_lengths pl.isList pl2.isList (by simp only [List.size_toArray, bne_iff_ne]; omega) hu X.prog X.w X.xe _ ⟨.bl true, H, I, rfl, q⟩
theorem eqD_some {x y : D} {b : Bool} (h : eqD x y = some b) : (∃ p q, x.py = some p ∧ y.py = some q ∧ SeqAt.shaped p = true ∧ SeqAt.shaped q = true ∧ b = PyData.eqv p q) ∨ ∃ d ds, x = .lst (d :: ds) ∧ y = .lst [] ∧ b = false := by
  unfold eqD at h
  split at h
  · rename_i p q e1 e2
    split at h
    · rename_i s
      rw [Bool.and_eq_true] at s
      cases h
      exact .inl ⟨p, q, e1, e2, s.1, s.2, rfl⟩
    · cases h
  · split at h
    · cases h
      exact .inr ⟨_, _, rfl, rfl, rfl⟩
    · cases h
theorem inD_some {x : D} {ys : List D} {b : Bool} (h : inD x ys = some b) : ∃ p qs, x.py = some p ∧ pys ys = some qs ∧ SeqAt.shaped p = true ∧ SeqAt.shaped (.list qs) = true ∧ b = qs.any fun z => PyData.eqv z p := by
  unfold inD at h
  split at h
  · rename_i p q e1 e2
    split at h
    · rename_i s
      rw [Bool.and_eq_true] at s
      cases h
      exact ⟨p, q, e1, e2, s.1, s.2, rfl⟩
    · cases h
  · cases h
theorem map_not {o : Option Bool} {b : Bool} (h : o.map (!·) = some b) : o = some (!b) := by
  cases o with
  | none => cases h
  | some c =>
    cases h
    simp
theorem op_inT (hu : X.A.units + 65 < cLine) : OpR X (compareOp .In) (fun x y H Q => ∃ d ds, Dp X.K H x d ∧ Dp X.K H y (.tuple ds) ∧ SeqAt.shaped d = true ∧ SeqAt.shaped (.list ds) = true ∧ Q (.bl (ds.any fun z => PyData.eqv z d)) H) := by
  intro pins s σ H x y v u Q I rx ry h
  obtain ⟨d, ds, hd, he, sd, se, q⟩ := h
  obtain ⟨as, r1⟩ := Dp.reads I d x v hd rx
  obtain ⟨bs, r2⟩ := Dp.reads I (.tuple ds) y u he ry
  exact SeqAt.in_tuple_reads r2 r1 (SeqAt.canLay_of_shaped se) (SeqAt.canLay_of_shaped sd) (PyProof.Rows.room_in_shaped sd hu) ⟨.bl _, H, I, rfl, q⟩
theorem op_notInT (hu : X.A.units + 65 < cLine) : OpR X (compareOp .NotIn) (fun x y H Q => ∃ d ds, Dp X.K H x d ∧ Dp X.K H y (.tuple ds) ∧ SeqAt.shaped d = true ∧ SeqAt.shaped (.list ds) = true ∧ Q (.bl (!ds.any fun z => PyData.eqv z d)) H) := by
  intro pins s σ H x y v u Q I rx ry h
  obtain ⟨d, ds, hd, he, sd, se, q⟩ := h
  obtain ⟨as, r1⟩ := Dp.reads I d x v hd rx
  obtain ⟨bs, r2⟩ := Dp.reads I (.tuple ds) y u he ry
  exact SeqAt.notIn_tuple_reads r2 r1 (SeqAt.canLay_of_shaped se) (SeqAt.canLay_of_shaped sd) (PyProof.Rows.room_in_shaped sd hu) ⟨.bl _, H, I, rfl, q⟩
def isNonD : D → Bool
  | .non => true
  | _ => false
theorem rep_non {x : D} {v : V} (r : Rep T F x v) : decide (v = .non) = isNonD x := by
  cases x with
  | non => rw [show v = .non from r]; rfl
  | bl b => rw [show v = .bl b from r]; rfl
  | int b => rw [show v = .int b from r]; rfl
  | str b => rw [show v = .str b from r]; rfl
  | tup ds => obtain ⟨a, vs, rfl, _⟩ := r; rfl
  | lst ds => obtain ⟨a, vs, rfl, _⟩ := r; rfl
  | scr ds => obtain ⟨a, vs, rfl, _⟩ := r; rfl
  | tpk ds => obtain ⟨a, vs, ob, rfl, _⟩ := r; rfl
  | ins c ds => obtain ⟨a, dx, vs, rfl, _⟩ := r; rfl
  | exc c ds => obtain ⟨a, dx, vs, rfl, _⟩ := r; rfl
  | dct ks ds => obtain ⟨a, vs, rfl, _⟩ := r; rfl
theorem Cn.non {x : FV} {v : V} (h : Cn T F H x v) (e : x.frz = .non) : v = .non := by
  cases x with
  | dat d => cases (show d = D.non from e); exact h
  | lst ds' => cases (show D.lst ds' = D.non from e)
theorem co_ok (c : Ctx T X) (O : Ok T F H w σ ρ) {o : CmpOp} {x y : FV} {v u : V} {b : Bool} (cx : Cn T F H x v) (cy : Cn T F H y u) (h : co o x.frz y.frz = some b) (q : Q (.bl b) H) : rU X (compareOp o) v u H Q := by
  have un : X.A.units + 64 < cLine := by have := c.un; omega
  have rx := cx.rep O.sub
  generalize ea : x.frz = a at h
  generalize eb : y.frz = b' at h
  have eqk : ∀ k : Bool, eqD a b' = some k → (∃ p q, Dp X.K H v p ∧ Dp X.K H u q ∧ SeqAt.shaped p = true ∧ SeqAt.shaped q = true ∧ k = PyData.eqv p q) ∨ (∃ a b z zs, v = V.ref a ∧ u = V.ref b ∧ SqL X.K H a (z :: zs) ∧ SqL X.K H b [] ∧ k = false) := fun k e => by
    rcases eqD_some e with ⟨p, q, e1, e2, s1, s2, e3⟩ | ⟨d, ds, e1, e2, e3⟩
    rotate_left
    · obtain ⟨a1, vs1, rfl, h1, r1⟩ := cx.list O.sub (ea.trans e1)
      obtain ⟨a2, vs2, rfl, h2, r2⟩ := cy.list O.sub (eb.trans e2)
      obtain ⟨z, zs, rfl, _⟩ := r1
      rw [show vs2 = [] from r2] at h2
      exact .inr ⟨a1, a2, z, zs, rfl, rfl, .of h1, .of h2, e3⟩
    refine .inl ?_
    rw [c.K]
    exact ⟨p, q, cx.dp O (by rw [ea]; exact e1), cy.dp O (by rw [eb]; exact e2), s1, s2, e3⟩
  have ink : ∀ (ys : List D) (k : Bool), (b' = .lst ys ∨ b' = .tup ys) → inD a ys = some k → ∃ p qs, Dp X.K H v p ∧ ((b' = .lst ys ∧ Dp X.K H u (.list qs)) ∨ (b' = .tup ys ∧ Dp X.K H u (.tuple qs))) ∧ SeqAt.shaped p = true ∧ SeqAt.shaped (.list qs) = true ∧ k = qs.any fun z => PyData.eqv z p := fun ys k hy e => by
    obtain ⟨p, qs, e1, e2, s1, s2, e3⟩ := inD_some e
    rw [c.K]
    refine ⟨p, qs, cx.dp O (by rw [ea]; exact e1), ?_, s1, s2, e3⟩
    rcases hy with hy | hy
    · refine .inl ⟨hy, cy.dp O ?_⟩
      rw [eb, hy]
      show (pys ys).map PyData.list = _
      rw [e2]
      rfl
    · refine .inr ⟨hy, cy.dp O ?_⟩
      rw [eb, hy]
      show (pys ys).map PyData.tuple = _
      rw [e2]
      rfl
  unfold co at h
  split at h
  · rcases eqk _ h with ⟨p, q', h1, h2, h3, h4, rfl⟩ | ⟨a1, a2, z, zs, rfl, rfl, h1, h2, rfl⟩
    · exact rU_of (op_eqD un) ⟨p, q', h1, h2, h3, h4, q⟩
    · exact rU_of (op_eqNil (by omega)) ⟨a1, a2, z, zs, rfl, rfl, h1, h2, q⟩
  · rcases eqk _ (map_not h) with ⟨p, q', h1, h2, h3, h4, e⟩ | ⟨a1, a2, z, zs, rfl, rfl, h1, h2, e⟩
    rotate_left
    · refine rU_of (op_neNil (by omega)) ⟨a1, a2, z, zs, rfl, rfl, h1, h2, ?_⟩
      have : b = true := by cases b <;> first | rfl | cases e
      rw [← this]
      exact q
    refine rU_of (op_neD un) ⟨p, q', h1, h2, h3, h4, ?_⟩
    rw [← e, Bool.not_not]
    exact q
  · cases h
    rw [cx.int ea, cy.int eb]
    exact rU_of op_lt ⟨_, _, rfl, rfl, q⟩
  · cases h
    rw [cx.int ea, cy.int eb]
    exact rU_of op_le ⟨_, _, rfl, rfl, q⟩
  · cases h
    rw [cx.int ea, cy.int eb]
    exact rU_of op_gt ⟨_, _, rfl, rfl, q⟩
  · cases h
    rw [cx.int ea, cy.int eb]
    exact rU_of op_ge ⟨_, _, rfl, rfl, q⟩
  · cases h
    rw [cx.non ea, cy.non eb]
    exact rU_of op_isN ⟨rfl, q⟩
  · cases h
    rw [cx.bl ea, cy.bl eb]
    exact rU_of op_isBl ⟨_, _, rfl, rfl, q⟩
  · cases h
    rw [cy.non eb]
    refine rU_of op_isN ⟨rfl, ?_⟩
    rw [rep_non rx, ea]
    rename_i hn
    have : isNonD a = false := by
      cases a with
      | non => exact (hn rfl).elim
      | _ => rfl
    rw [this]
    exact q
  · cases h
    rw [cx.non ea, cy.non eb]
    exact rU_of op_notN ⟨rfl, q⟩
  · cases h
    rw [cx.bl ea, cy.bl eb]
    exact rU_of op_notBl ⟨_, _, rfl, rfl, q⟩
  · cases h
    rw [cy.non eb]
    refine rU_of op_notN ⟨rfl, ?_⟩
    rw [rep_non rx, ea]
    rename_i hn
    have : isNonD a = false := by
      cases a with
      | non => exact (hn rfl).elim
      | _ => rfl
    rw [this]
    exact q
  · rename_i ys
    obtain ⟨p, qs, h1, h2, h3, h4, rfl⟩ := ink ys _ (.inl rfl) h
    have h2 := h2.elim (·.2) (fun z => nomatch z.1)
    exact rU_of (op_inD c.un) ⟨p, qs, h1, h2, h3, h4, q⟩
  · rename_i ys
    obtain ⟨p, qs, h1, h2, h3, h4, rfl⟩ := ink ys _ (.inr rfl) h
    have h2 := h2.elim (fun z => nomatch z.1) (·.2)
    exact rU_of (op_inT c.un) ⟨p, qs, h1, h2, h3, h4, q⟩
  · rename_i ys
    obtain ⟨p, qs, h1, h2, h3, h4, e⟩ := ink ys _ (.inl rfl) (map_not h)
    have h2 := h2.elim (·.2) (fun z => nomatch z.1)
    refine rU_of (op_notInD c.un) ⟨p, qs, h1, h2, h3, h4, ?_⟩
    rw [← e, Bool.not_not]
    exact q
  · rename_i ys
    obtain ⟨p, qs, h1, h2, h3, h4, e⟩ := ink ys _ (.inr rfl) (map_not h)
    have h2 := h2.elim (fun z => nomatch z.1) (·.2)
    refine rU_of (op_notInT c.un) ⟨p, qs, h1, h2, h3, h4, ?_⟩
    rw [← e, Bool.not_not]
    exact q
  · cases h
    rw [cx.str ea, cy.str eb]
    exact rU_of op_in_str ⟨_, _, rfl, rfl, q⟩
  · cases h
    rw [cx.str ea, cy.str eb]
    refine rU_of op_notin_str ⟨_, _, rfl, rfl, ?_⟩
    rw [Bool.not_not]
    exact q
  · cases h
/-! ### truth -/
def tU (X : Cx) : V → Hp → (Bool → Hp → Prop) → Prop := fun x H Q => ∃ k, TruV X.K x H k ∧ Q k H
theorem tru_data (c : Ctx T X) (O : Ok T F H w σ ρ) {x : FV} {v : V} {b : Bool} (cx : Cn T F H x v) (h : truD x.frz = some b) : TruV X.K v H b := by
  generalize ea : x.frz = a at h
  unfold truD at h
  split at h
  · cases h; rw [cx.non ea]; rfl
  · cases h; rw [cx.bl ea]; rfl
  · cases h; rw [cx.int ea]; rfl
  · split at h <;> cases h
    rename_i hz
    rw [cx.str ea]
    exact ⟨sz_le hz, rfl⟩
  · cases h
    obtain ⟨p, vs, rfl, h1, r⟩ := cx.list O.sub ea
    refine .inl ⟨vs, .of h1, ?_⟩
    cases vs with
    | nil => rw [r.nil_iff.mp rfl]; rfl
    | cons _ _ =>
      rename_i ds _ _
      cases ds with
      | nil => cases r.nil_iff.mpr rfl
      | cons _ _ => rfl
  · cases h
    obtain ⟨p, vs, rfl, h1, r⟩ := cx.tup O.sub ea
    rw [← c.K] at h1
    refine .inr (.inl ⟨vs, O.sub.t h1, ?_⟩)
    cases vs with
    | nil => rw [r.nil_iff.mp rfl]; rfl
    | cons _ _ =>
      rename_i ds _ _
      cases ds with
      | nil => cases r.nil_iff.mpr rfl
      | cons _ _ => rfl
  · cases h
end
end Dv
end
section
set_option Elab.async false
set_option maxRecDepth 100000
set_option linter.all false
/-! What code does, by values: expressions -/
namespace Dv
open PySem PySem.Spec L2

/-- an exception, as the kit's wish tells it -/
def ExOk (T : Tb) (F : Hp) (x : Ex) (cls : Value) (d : Option Addr) : Prop := cls = .ref (T.ea x.c) ∧ x.c < T.ne ∧ ((x.ds = [] ∧ d = none) ∨ ∃ dd vs, d = some dd ∧ F dd = some (.xd ((T.xf x.c).zip vs)) ∧ Reps T F x.ds vs ∧ x.ds ≠ [])
/-- what is wanted of an exception -/
def KX (T : Tb) (W : WX) (F H : Hp) (w : Wn) (σ : St) : Ex → En → Prop := fun x ρ' => ∀ F' H' w', Ok T F' H' w' σ ρ' → Sp2 F H w F' H' w' → ∀ cls d, ExOk T F' x cls d → W cls d σ H'
theorem KX.back {T : Tb} {W : WX} {F H F1 H1 : Hp} {w w1 : Wn} {σ : St} {x : Ex} {ρ : En} (s : Sp2 F H w F1 H1 w1) (h : KX T W F H w σ x ρ) : KX T W F1 H1 w1 σ x ρ := fun F' H' w' O s' => h F' H' w' O (s.trans s')
/-- what is wanted of a result -/
def KR (T : Tb) (F H : Hp) (w : Wn) (σ : St) (Q : VK) : R → En → Prop := fun r ρ' => ∀ F' H' w' v, Ok T F' H' w' σ ρ' → Sp2 F H w F' H' w' → ROk T H F' H' w' σ r v → Q v H'
def KB (T : Tb) (F H : Hp) (w : Wn) (σ : St) (Q : Bool → Hp → Prop) : Bool → En → Prop := fun b ρ' => ∀ F' H' w', Ok T F' H' w' σ ρ' → Sp2 F H w F' H' w' → Q b H'
theorem KR.back {T : Tb} {Q : VK} {F H F1 H1 : Hp} {w w1 : Wn} {σ : St} {x : R} {ρ : En} (s : Sp2 F H w F1 H1 w1) (h : KR T F H w σ Q x ρ) : KR T F1 H1 w1 σ Q x ρ := fun F' H' w' v O s' r => h F' H' w' v O (s.trans s') (r.old fun a z => s.back z)
theorem KB.back {T : Tb} {Q : Bool → Hp → Prop} {F H F1 H1 : Hp} {w w1 : Wn} {σ : St} {x : Bool} {ρ : En} (s : Sp2 F H w F1 H1 w1) (h : KB T F H w σ Q x ρ) : KB T F1 H1 w1 σ Q x ρ := fun F' H' w' O s' => h F' H' w' O (s.trans s')
/-- an expression does m -/
def DE (T : Tb) (X : Cx) (W : WX) (e : Expr) (m : M R) : Prop := ∀ F H w σ ρ (Q : VK), Ok T F H w σ ρ → (m ρ).holds (KR T F H w σ Q) (KX T W F H w σ) → tw X e σ H Q
/-- a test does m -/
def DT (T : Tb) (X : Cx) (W : WX) (e : Expr) (m : M Bool) : Prop := ∀ F H w σ ρ (Q : Bool → Hp → Prop), Ok T F H w σ ρ → (m ρ).holds (KB T F H w σ Q) (KX T W F H w σ) → twT X e σ H Q
section
variable {T : Tb} {X : Cx} {W : WX} {F H F0 H0 : Hp} {w w0 : Wn} {σ : St} {ρ : En} {a b e : Expr} {pos : Pos}
theorem DE.run {m : M R} {α : Type} {f : R → M α} {Kq : α → En → Prop} {Q : VK} (h : DE T X W e m) (O : Ok T F H w σ ρ) (s : Sp2 F0 H0 w0 F H w) (hm : (m.bnd f ρ).holds Kq (KX T W F0 H0 w0 σ))
    (k : ∀ r ρ' F' H' w' v, (f r ρ').holds Kq (KX T W F0 H0 w0 σ) → Ok T F' H' w' σ ρ' → Sp2 F H w F' H' w' → ROk T H F' H' w' σ r v → Q v H') : tw X e σ H Q :=
  h F H w σ ρ Q O (Out.holds_imp (bnd_holds hm) (fun r ρ' q F' H' w' v O' s' R' => k r ρ' F' H' w' v q O' s' R') fun x ρ' q => q.back s)
theorem DT.run {m : M Bool} {α : Type} {f : Bool → M α} {Kq : α → En → Prop} {Q : Bool → Hp → Prop} (h : DT T X W e m) (O : Ok T F H w σ ρ) (s : Sp2 F0 H0 w0 F H w) (hm : (m.bnd f ρ).holds Kq (KX T W F0 H0 w0 σ))
    (k : ∀ r ρ' F' H' w', (f r ρ').holds Kq (KX T W F0 H0 w0 σ) → Ok T F' H' w' σ ρ' → Sp2 F H w F' H' w' → Q r H') : twT X e σ H Q :=
  h F H w σ ρ Q O (Out.holds_imp (bnd_holds hm) (fun r ρ' q F' H' w' O' s' => k r ρ' F' H' w' q O' s') fun x ρ' q => q.back s)
/-- .. and it ends there -/
theorem DE.go {m : M R} {Q : VK} (h : DE T X W e m) (O : Ok T F H w σ ρ) (s : Sp2 F0 H0 w0 F H w) (hm : (m ρ).holds (KR T F0 H0 w0 σ Q) (KX T W F0 H0 w0 σ)) : tw X e σ H Q :=
  h F H w σ ρ Q O (Out.holds_imp hm (fun r ρ' q => q.back s) fun x ρ' q => q.back s)
theorem DT.go {m : M Bool} {Q : Bool → Hp → Prop} (h : DT T X W e m) (O : Ok T F H w σ ρ) (s : Sp2 F0 H0 w0 F H w) (hm : (m ρ).holds (KB T F0 H0 w0 σ Q) (KX T W F0 H0 w0 σ)) : twT X e σ H Q :=
  h F H w σ ρ Q O (Out.holds_imp hm (fun r ρ' q => q.back s) fun x ρ' q => q.back s)
theorem get_holds {α : Type} {r : R} {f : FV → M α} {Kq : α → En → Prop} {Ke : Ex → En → Prop} (h : ((getM r).bnd f ρ).holds Kq Ke) : ∃ x, r.get ρ = some x ∧ (f x ρ).holds Kq Ke := opt_holds (bnd_holds h)
theorem optb {α β : Type} {o : Option β} {f : β → M α} {Kq : α → En → Prop} {Ke : Ex → En → Prop} (h : (((M.opt o).bnd f) ρ).holds Kq Ke) : ∃ x, o = some x ∧ (f x ρ).holds Kq Ke := opt_holds (bnd_holds h)
theorem KR.out {z : FV} {Q : VK} (s : Sp2 F0 H0 w0 F H w) (h : KR T F0 H0 w0 σ Q (.val z) ρ) : Out1 T F H w σ ρ z Q := fun F' H' v O' s' R' => h F' H' w v O' (s.trans s') (TvOk.old R' fun a z => s.back z)
theorem KR.pure {d : D} {v : V} {Q : VK} (O : Ok T F H w σ ρ) (s : Sp2 F0 H0 w0 F H w) (h : KR T F0 H0 w0 σ Q (.val (.dat d)) ρ) (r : Rep T F d v) : Q v H := h F H w v O s r
theorem KR.same {r : R} {v : V} {Q : VK} (O : Ok T F H w σ ρ) (s : Sp2 F0 H0 w0 F H w) (h : KR T F0 H0 w0 σ Q r ρ) (q : ROk T H0 F H w σ r v) : Q v H := h F H w v O s q

theorem de_var {i : Nat} {x : Str} (hN : X.N[i]? = some x) (hv : Vis X.env.scope x) (hd : (x == ("__debug__" : Str)) = false) (hcd : (x == ("__classdict__" : Str)) = false) : DE T X W (.Name x pos) (varM i) := fun F H w σ ρ Q O h => by
  unfold varM at h
  split at h
  · rename_i y e
    obtain ⟨v, e1, _⟩ := O.sl i y e
    exact tw_of (pe_var hN hv hd hcd) ⟨v, e1, KR.same (r := .slot i) O Sp2.refl h e1⟩
  · exact h.elim
theorem de_C {d : D} {v : V} (hp : PE X e (tC v)) (hr : ∀ F, Rep T F d v) : DE T X W e (M.ret (.val (.dat d))) := fun F H w σ ρ Q O h => tw_of hp (KR.pure O Sp2.refl h (hr F))
theorem de_bin (c : Ctx T X) {o : Operator} {ma mb : M R} (ha : DE T X W a ma) (hb : DE T X W b mb) :
    DE T X W (.BinOp a o b pos) (ma.bnd fun r => mb.bnd fun q => (getM r).bnd fun x => (getM q).bnd fun y => (M.opt (bo o x.frz y.frz)).bnd fun z => M.ret (.val z)) := fun F H w σ ρ Q O h => by
  refine tw_of (pe_op rU_ok pe_tw pe_tw) ?_
  refine ha.run O Sp2.refl h fun r ρ1 F1 H1 w1 v h1 O1 s1 R1 => ?_
  refine hb.run O1 s1 h1 fun q ρ2 F2 H2 w2 u h2 O2 s2 R2 => ?_
  obtain ⟨x, ex, h3⟩ := get_holds h2
  obtain ⟨y, ey, h4⟩ := get_holds h3
  obtain ⟨z, ez, h5⟩ := optb h4
  exact bo_ok c O2 ((R1.step s2).cn O2 ex) (R2.cn O2 ey) ez (KR.out (s1.trans s2) h5)
theorem de_un {o : UnaryOp} {ma : M R} (ha : DE T X W a ma) : DE T X W (.UnaryOp o a pos) (ma.bnd fun r => (getM r).bnd fun x => (M.opt (uo o x.frz)).bnd fun z => M.ret (.val z)) := fun F H w σ ρ Q O h => by
  refine tw_of (pe_un uU_ok pe_tw) ?_
  refine ha.run O Sp2.refl h fun r ρ1 F1 H1 w1 v h1 O1 s1 R1 => ?_
  obtain ⟨x, ex, h3⟩ := get_holds h1
  obtain ⟨z, ez, h5⟩ := optb h3
  exact uo_ok O1 (R1.cn O1 ex) ez (KR.out s1 h5)
theorem de_cmp (c : Ctx T X) {o : CmpOp} {ma mb : M R} (ha : DE T X W a ma) (hb : DE T X W b mb) (hm : behindInMarks o b = false) :
    DE T X W (.Compare a [o] [b] pos) (ma.bnd fun r => mb.bnd fun q => (getM r).bnd fun x => (getM q).bnd fun y => (M.opt (co o x.frz y.frz)).bnd fun z => M.ret (.val (.dat (.bl z)))) := fun F H w σ ρ Q O h => by
  refine tw_of (pe_cmpR rU_ok pe_tw pe_tw hm) ?_
  refine ha.run O Sp2.refl h fun r ρ1 F1 H1 w1 v h1 O1 s1 R1 => ?_
  refine hb.run O1 s1 h1 fun q ρ2 F2 H2 w2 u h2 O2 s2 R2 => ?_
  obtain ⟨x, ex, h3⟩ := get_holds h2
  obtain ⟨y, ey, h4⟩ := get_holds h3
  obtain ⟨z, ez, h5⟩ := optb h4
  exact co_ok c O2 ((R1.step s2).cn O2 ex) (R2.cn O2 ey) ez (KR.pure (v := .bl z) O2 (s1.trans s2) h5 rfl)
theorem dt_cmp (c : Ctx T X) {o : CmpOp} {ma mb : M R} (ha : DE T X W a ma) (hb : DE T X W b mb) (hm : behindInMarks o b = false) :
    DT T X W (.Compare a [o] [b] pos) (ma.bnd fun r => mb.bnd fun q => (getM r).bnd fun x => (getM q).bnd fun y => M.opt (co o x.frz y.frz)) := fun F H w σ ρ Q O h => by
  refine twT_of (pt_cmpR rU_ok pe_tw pe_tw hm) ?_
  refine ha.run O Sp2.refl h fun r ρ1 F1 H1 w1 v h1 O1 s1 R1 => ?_
  refine hb.run O1 s1 h1 fun q ρ2 F2 H2 w2 u h2 O2 s2 R2 => ?_
  obtain ⟨x, ex, h3⟩ := get_holds h2
  obtain ⟨y, ey, h4⟩ := get_holds h3
  obtain ⟨z, ez, h5⟩ := opt_holds h4
  exact co_ok c O2 ((R1.step s2).cn O2 ex) (R2.cn O2 ey) ez ⟨z, rfl, h5 _ _ _ O2 (s1.trans s2)⟩
theorem de_cm2 (k : Ctx T X) {c : Expr} {o p : CmpOp} {ma mb mc : M R} (ha : DE T X W a ma) (hb : DE T X W b mb) (hc : DE T X W c mc) (hm : lastMarks [o, p] [b, c] = false) :
    DE T X W (.Compare a [o, p] [b, c] pos) (ma.bnd fun r => mb.bnd fun q => (getM r).bnd fun x => (getM q).bnd fun y => (M.opt (co o x.frz y.frz)).bnd fun z =>
      if z then mc.bnd fun u => (getM q).bnd fun y' => (getM u).bnd fun v => (M.opt (co p y'.frz v.frz)).bnd fun z' => M.ret (.val (.dat (.bl z'))) else M.ret (.val (.dat (.bl false)))) := fun F H w σ ρ Q O h => by
  refine tw_of (pe_chain rU_ok rU_ok pe_tw pe_tw pe_tw hm) ?_
  refine ha.run O Sp2.refl h fun r ρ1 F1 H1 w1 v h1 O1 s1 R1 => ?_
  refine hb.run O1 s1 h1 fun q ρ2 F2 H2 w2 u h2 O2 s2 R2 => ?_
  obtain ⟨x, ex, h3⟩ := get_holds h2
  obtain ⟨y, ey, h4⟩ := get_holds h3
  obtain ⟨z, ez, h5⟩ := optb h4
  refine co_ok k O2 ((R1.step s2).cn O2 ex) (R2.cn O2 ey) ez ⟨z, rfl, ?_⟩
  cases z with
  | false => exact KR.pure (v := .bl false) O2 (s1.trans s2) h5 rfl
  | true =>
    rw [if_pos rfl] at h5 ⊢
    refine hc.run O2 (s1.trans s2) h5 fun q3 ρ3 F3 H3 w3 u3 h6 O3 s3 R3 => ?_
    obtain ⟨y', ey', h7⟩ := get_holds h6
    obtain ⟨z3, ez3, h8⟩ := get_holds h7
    obtain ⟨z', ez', h9⟩ := optb h8
    exact co_ok k O3 ((R2.step s3).cn O3 ey') (R3.cn O3 ez3) ez' (KR.pure (v := .bl z') O3 ((s1.trans s2).trans s3) h9 rfl)
theorem dt_cm2 (k : Ctx T X) {c : Expr} {o p : CmpOp} {ma mb mc : M R} (ha : DE T X W a ma) (hb : DE T X W b mb) (hc : DE T X W c mc) (hm : lastMarks [o, p] [b, c] = false) :
    DT T X W (.Compare a [o, p] [b, c] pos) (ma.bnd fun r => mb.bnd fun q => (getM r).bnd fun x => (getM q).bnd fun y => (M.opt (co o x.frz y.frz)).bnd fun z =>
      if z then mc.bnd fun u => (getM q).bnd fun y' => (getM u).bnd fun v => M.opt (co p y'.frz v.frz) else M.ret false) := fun F H w σ ρ Q O h => by
  refine twT_of (pt_chain rU_ok rU_ok pe_tw pe_tw pe_tw hm) ?_
  refine ha.run O Sp2.refl h fun r ρ1 F1 H1 w1 v h1 O1 s1 R1 => ?_
  refine hb.run O1 s1 h1 fun q ρ2 F2 H2 w2 u h2 O2 s2 R2 => ?_
  obtain ⟨x, ex, h3⟩ := get_holds h2
  obtain ⟨y, ey, h4⟩ := get_holds h3
  obtain ⟨z, ez, h5⟩ := optb h4
  refine co_ok k O2 ((R1.step s2).cn O2 ex) (R2.cn O2 ey) ez ⟨z, rfl, ?_⟩
  cases z with
  | false => exact ⟨false, rfl, h5 _ _ _ O2 (s1.trans s2)⟩
  | true =>
    rw [if_pos rfl] at h5 ⊢
    refine hc.run O2 (s1.trans s2) h5 fun q3 ρ3 F3 H3 w3 u3 h6 O3 s3 R3 => ?_
    obtain ⟨y', ey', h7⟩ := get_holds h6
    obtain ⟨z3, ez3, h8⟩ := get_holds h7
    obtain ⟨z', ez', h9⟩ := opt_holds h8
    exact co_ok k O3 ((R2.step s3).cn O3 ey') (R3.cn O3 ez3) ez' ⟨z', rfl, h9 _ _ _ O3 ((s1.trans s2).trans s3)⟩
theorem asBl_bl {x : FV} {b : Bool} (h : asBl x = some b) : x = .dat (.bl b) := by
  unfold asBl at h
  split at h <;> cases h
  rfl
theorem asInt_int {x : FV} {b : Int} (h : asInt x = some b) : x = .dat (.int b) := by
  unfold asInt at h
  split at h <;> cases h
  rfl
theorem de_nt {ma : M R} (ha : DE T X W a ma) : DE T X W (.UnaryOp .Not a pos) (ma.bnd fun r => (getM r).bnd fun x => (M.opt (asBl x)).bnd fun b => M.ret (.val (.dat (.bl (!b))))) := fun F H w σ ρ Q O h => by
  refine tw_of (pe_not pe_tw) ?_
  refine ha.run O Sp2.refl h fun r ρ1 F1 H1 w1 v h1 O1 s1 R1 => ?_
  obtain ⟨x, ex, h3⟩ := get_holds h1
  obtain ⟨z, ez, h5⟩ := optb h3
  have e := (R1.cn O1 ex).bl (i := z) (by rw [asBl_bl ez]; rfl)
  exact ⟨z, e, KR.pure (v := .bl (!z)) O1 s1 h5 rfl⟩
theorem de_and {rest : List Expr} {ma mb : M R} (ha : DE T X W a ma) (hb : DE T X W (.BoolOp .And (b :: rest) pos) mb) :
    DE T X W (.BoolOp .And (a :: b :: rest) pos) (ma.bnd fun r => (getM r).bnd fun x => (M.opt (asBl x)).bnd fun b => if b then mb else M.ret (.val (.dat (.bl false)))) := fun F H w σ ρ Q O h => by
  refine tw_of (pe_and pe_tw pe_tw) ?_
  refine ha.run O Sp2.refl h fun r ρ1 F1 H1 w1 v h1 O1 s1 R1 => ?_
  obtain ⟨x, ex, h3⟩ := get_holds h1
  obtain ⟨z, ez, h5⟩ := optb h3
  have e := (R1.cn O1 ex).bl (i := z) (by rw [asBl_bl ez]; rfl)
  refine ⟨z, e, ?_⟩
  cases z with
  | false => exact KR.pure (v := .bl false) O1 s1 h5 rfl
  | true => exact hb.go O1 s1 h5
theorem de_or (c : Ctx T X) {rest : List Expr} {ma mb : M R} (ha : DE T X W a ma) (hb : DE T X W (.BoolOp .Or (b :: rest) pos) mb) :
    DE T X W (.BoolOp .Or (a :: b :: rest) pos) (ma.bnd fun r => (getM r).bnd fun x => (M.opt (truD x.frz)).bnd fun b => if b then M.ret r else mb) := fun F H w σ ρ Q O h => by
  refine tw_of (pe_orT pe_tw pe_tw) ?_
  refine ha.run O Sp2.refl h fun r ρ1 F1 H1 w1 v h1 O1 s1 R1 => ?_
  obtain ⟨x, ex, h3⟩ := get_holds h1
  obtain ⟨z, ez, h5⟩ := optb h3
  refine ⟨z, tru_data c O1 (R1.cn O1 ex) ez, ?_⟩
  cases z with
  | true => exact KR.same O1 s1 h5 R1
  | false => exact hb.go O1 s1 h5
theorem de_one {op : BoolOp} {ma : M R} (ha : DE T X W a ma) : DE T X W (.BoolOp op [a] pos) ma := fun F H w σ ρ Q O h => tw_of (pe_one pe_tw) (ha.go O Sp2.refl h)
theorem de_ite {c : Expr} {mc : M Bool} {ma mb : M R} (hc : DT T X W c mc) (ha : DE T X W a ma) (hb : DE T X W b mb) : DE T X W (.IfExp c a b pos) (mc.bnd fun k => if k then ma else mb) := fun F H w σ ρ Q O h => by
  refine tw_of (pe_ifExp pt_twT pe_tw pe_tw) ?_
  refine hc.run O Sp2.refl h fun z ρ1 F1 H1 w1 h5 O1 s1 => ?_
  cases z with
  | true => exact ha.go O1 s1 h5
  | false => exact hb.go O1 s1 h5
/-! ### tests -/
theorem dt_val (c : Ctx T X) {ma : M R} (ha : DE T X W a ma) (he : ∀ whole, isTrue a X.env whole = (do let v ← whole; standAt a.pos; holding [v] (truthy v))) :
    DT T X W a (ma.bnd fun r => (getM r).bnd fun x => M.opt (truD x.frz)) := fun F H w σ ρ Q O h => by
  refine twT_of (pt_truth pe_tw he) ?_
  refine ha.run O Sp2.refl h fun r ρ1 F1 H1 w1 v h1 O1 s1 R1 => ?_
  obtain ⟨x, ex, h3⟩ := get_holds h1
  obtain ⟨z, ez, h5⟩ := opt_holds h3
  exact ⟨z, tru_data c O1 (R1.cn O1 ex) ez, h5 _ _ _ O1 s1⟩
theorem dt_not {ma : M Bool} (ha : DT T X W a ma) : DT T X W (.UnaryOp .Not a pos) (ma.bnd fun b => M.ret (!b)) := fun F H w σ ρ Q O h => by
  refine twT_of (pt_not pt_twT) ?_
  exact ha.run O Sp2.refl h fun z ρ1 F1 H1 w1 h5 O1 s1 => h5 _ _ _ O1 s1
/-- a BoolOp's reading, whatever the whole is -/
def twW (X : Cx) (e : Expr) : TT := fun σ H Q => ∀ (wh : Sem Value) (pins : List (Addr × Obj)) (s : Shared), Inv X pins σ H s → wpAny (model X.prog X.w) X.A (isTrue e X.env wh) (TP X pins σ Q) X.xe s
theorem pw_twW : PW X e (twW X e) := ⟨fun wh pins s σ H Q I h => h wh pins s I⟩
theorem twW_of {t : TT} {Q : Bool → Hp → Prop} (p : PW X e t) (h : t σ H Q) : twW X e σ H Q := fun wh pins s I => p.run wh pins s σ H Q I h
def DW (T : Tb) (X : Cx) (W : WX) (e : Expr) (m : M Bool) : Prop := ∀ F H w σ ρ (Q : Bool → Hp → Prop), Ok T F H w σ ρ → (m ρ).holds (KB T F H w σ Q) (KX T W F H w σ) → twW X e σ H Q
theorem DW.go {m : M Bool} {Q : Bool → Hp → Prop} (h : DW T X W e m) (O : Ok T F H w σ ρ) (s : Sp2 F0 H0 w0 F H w) (hm : (m ρ).holds (KB T F0 H0 w0 σ Q) (KX T W F0 H0 w0 σ)) : twW X e σ H Q :=
  h F H w σ ρ Q O (Out.holds_imp hm (fun r ρ' q => q.back s) fun x ρ' q => q.back s)
theorem dw_t {m : M Bool} (h : DW T X W e m) : DT T X W e m := fun F H w σ ρ Q O hm pins s I => h F H w σ ρ Q O hm _ pins s I
theorem dw_and1 {ma mb : M Bool} (ha : DT T X W a ma) (hb : mb = M.ret true) : DW T X W (.BoolOp .And [a] pos) (ma.bnd fun b => if b then mb else M.ret false) := fun F H w σ ρ Q O h => by
  refine twW_of (pw_and1 pt_twT) ?_
  refine ha.run O Sp2.refl h fun z ρ1 F1 H1 w1 h5 O1 s1 => ?_
  cases z with
  | true => rw [hb] at h5; exact h5 _ _ _ O1 s1
  | false => exact h5 _ _ _ O1 s1
theorem dw_or1 {ma mb : M Bool} (ha : DT T X W a ma) (hb : mb = M.ret false) : DW T X W (.BoolOp .Or [a] pos) (ma.bnd fun b => if b then M.ret true else mb) := fun F H w σ ρ Q O h => by
  refine twW_of (pw_or1 pt_twT) ?_
  refine ha.run O Sp2.refl h fun z ρ1 F1 H1 w1 h5 O1 s1 => ?_
  cases z with
  | false => rw [hb] at h5; exact h5 _ _ _ O1 s1
  | true => exact h5 _ _ _ O1 s1
theorem dw_and {rest : List Expr} {ma mb : M Bool} (ha : DT T X W a ma) (hb : DW T X W (.BoolOp .And (b :: rest) pos) mb) : DW T X W (.BoolOp .And (a :: b :: rest) pos) (ma.bnd fun b => if b then mb else M.ret false) := fun F H w σ ρ Q O h => by
  refine twW_of (pw_and pt_twT pw_twW) ?_
  refine ha.run O Sp2.refl h fun z ρ1 F1 H1 w1 h5 O1 s1 => ?_
  cases z with
  | true => exact hb.go O1 s1 h5
  | false => exact h5 _ _ _ O1 s1
theorem dw_or {rest : List Expr} {ma mb : M Bool} (ha : DT T X W a ma) (hb : DW T X W (.BoolOp .Or (b :: rest) pos) mb) : DW T X W (.BoolOp .Or (a :: b :: rest) pos) (ma.bnd fun b => if b then M.ret true else mb) := fun F H w σ ρ Q O h => by
  refine twW_of (pw_or pt_twT pw_twW) ?_
  refine ha.run O Sp2.refl h fun z ρ1 F1 H1 w1 h5 O1 s1 => ?_
  cases z with
  | false => exact hb.go O1 s1 h5
  | true => exact h5 _ _ _ O1 s1
end
end Dv
end
section
set_option Elab.async false
set_option maxRecDepth 100000
set_option linter.all false
/-! Argument lists, displays, built-in functions -/
namespace Dv
open PySem PySem.Spec L2

/-- what is wanted of a list of results -/
def KL {α : Type} (T : Tb) (rel : Hp → Hp → Hp → Wn → St → α → List V → Prop) (F H : Hp) (w : Wn) (σ : St) (Q : List V → Hp → Prop) : α → En → Prop := fun a ρ' => ∀ F' H' w' vs, Ok T F' H' w' σ ρ' → Sp2 F H w F' H' w' → rel H F' H' w' σ a vs → Q vs H'
/-- an argument list does m -/
def DL {α : Type} (T : Tb) (rel : Hp → Hp → Hp → Wn → St → α → List V → Prop) (X : Cx) (W : WX) (es : List Expr) (m : M α) : Prop := ∀ F H w σ ρ (Q : List V → Hp → Prop), Ok T F H w σ ρ → (m ρ).holds (KL T rel F H w σ Q) (KX T W F H w σ) → twA X es σ H Q
def ROks (T : Tb) (H0 F H : Hp) (w : Wn) (σ : St) : List R → List V → Prop
  | [], vs => vs = []
  | r :: rs, vs => ∃ v us, vs = v :: us ∧ ROk T H0 F H w σ r v ∧ ROks T H0 F H w σ rs us
/-- taken data -/
def RepA (T : Tb) (H0 F H : Hp) (w : Wn) (σ : St) (ds : List D) (vs : List V) : Prop := Reps T F ds vs
def AOk (T : Tb) (H0 F H : Hp) (w : Wn) (σ : St) : Ar → V → Prop
  | .dat d, v => Rep T F d v
  | .own i, v => σ[i]? = some (some v)
  | .tmp ds, v => TvOk T H0 F H w (.lst ds) v
  | .inst c, v => ∃ a dx, v = .ref a ∧ H0 a = none ∧ w a = none ∧ F a = none ∧ H a = some (.ins (T.ca c) dx []) ∧ c < T.nc
/-- an argument that stands by itself -/
def Ar.isNew : Ar → Bool
  | .tmp _ => true
  | .inst _ => true
  | _ => false
/-- arguments; a list at hand is younger than what stands ahead of it -/
def AOks (T : Tb) (F H : Hp) (w : Wn) (σ : St) : Hp → List Ar → List V → Prop
  | _, [], vs => vs = []
  | H0, a :: as, vs => ∃ v us H1, vs = v :: us ∧ AOk T H0 F H w σ a v ∧ (∀ b, H1 b = none → H0 b = none) ∧ (∀ p, a.isNew = true → v = .ref p → H1 p ≠ none) ∧ AOks T F H w σ H1 as us
def AOksR (T : Tb) (H0 F H : Hp) (w : Wn) (σ : St) (as : List Ar) (vs : List V) : Prop := AOks T F H w σ H0 as vs
section
variable {T : Tb} {X : Cx} {W : WX} {F H F0 H0 F' H' : Hp} {w w0 w' : Wn} {σ : St} {ρ : En} {a b e : Expr} {es : List Expr} {pos : Pos}
theorem ROks.step : ∀ {rs : List R} {vs : List V}, Sp2 F H w F' H' w' → ROks T H0 F H w σ rs vs → ROks T H0 F' H' w' σ rs vs
  | [], vs, s, h => h
  | r :: rs, vs, s, h => by
    obtain ⟨v, us, e, h1, h2⟩ := h
    exact ⟨v, us, e, h1.step s, ROks.step s h2⟩
theorem ROks.old {H1 : Hp} (k : ∀ a, H1 a = none → H0 a = none) : ∀ {rs : List R} {vs : List V}, ROks T H1 F H w σ rs vs → ROks T H0 F H w σ rs vs
  | [], vs, h => h
  | r :: rs, vs, h => by
    obtain ⟨v, us, e, h1, h2⟩ := h
    exact ⟨v, us, e, h1.old k, ROks.old k h2⟩
theorem AOk.step {x : Ar} {v : V} (s : Sp2 F H w F' H' w') (h : AOk T H0 F H w σ x v) : AOk T H0 F' H' w' σ x v := by
  cases x with
  | dat d => exact Rep.mono s.ext d v h
  | own i => exact h
  | tmp ds => exact TvOk.step (x := .lst ds) s h
  | inst c =>
    obtain ⟨a, dx, e, h0, h1, h2, h3, h4⟩ := h
    exact ⟨a, dx, e, h0, s.nw (some_ne h3) h1, s.nofr a (some_ne h3) h1 h2, s.same a _ h3 h1, h4⟩
theorem AOk.old {H1 : Hp} {x : Ar} {v : V} (k : ∀ a, H1 a = none → H0 a = none) (h : AOk T H1 F H w σ x v) : AOk T H0 F H w σ x v := by
  cases x with
  | dat d => exact h
  | own i => exact h
  | tmp ds => exact TvOk.old (x := .lst ds) h k
  | inst c =>
    obtain ⟨a, dx, e, h0, r⟩ := h
    exact ⟨a, dx, e, k a h0, r⟩
theorem AOks.step : ∀ {rs : List Ar} {vs : List V} {H0 : Hp}, Sp2 F H w F' H' w' → AOks T F H w σ H0 rs vs → AOks T F' H' w' σ H0 rs vs
  | [], vs, _, s, h => h
  | r :: rs, vs, _, s, h => by
    obtain ⟨v, us, H1, e, h1, h2, h3, h4⟩ := h
    exact ⟨v, us, H1, e, h1.step s, h2, h3, AOks.step s h4⟩
theorem AOks.old {H1 : Hp} (k : ∀ a, H1 a = none → H0 a = none) : ∀ {rs : List Ar} {vs : List V}, AOks T F H w σ H1 rs vs → AOks T F H w σ H0 rs vs
  | [], vs, h => h
  | r :: rs, vs, h => by
    obtain ⟨v, us, H2, e, h1, h2, h3, h4⟩ := h
    exact ⟨v, us, H2, e, h1.old k, fun b z => k b (h2 b z), h3, h4⟩
theorem DL.run {α β : Type} {rel : Hp → Hp → Hp → Wn → St → α → List V → Prop} {m : M α} {f : α → M β} {Kq : β → En → Prop} {Q : List V → Hp → Prop} (h : DL T rel X W es m) (O : Ok T F H w σ ρ) (s : Sp2 F0 H0 w0 F H w) (hm : (m.bnd f ρ).holds Kq (KX T W F0 H0 w0 σ))
    (k : ∀ r ρ' F' H' w' v, (f r ρ').holds Kq (KX T W F0 H0 w0 σ) → Ok T F' H' w' σ ρ' → Sp2 F H w F' H' w' → rel H F' H' w' σ r v → Q v H') : twA X es σ H Q :=
  h F H w σ ρ Q O (Out.holds_imp (bnd_holds hm) (fun r ρ' q F' H' w' v O' s' R' => k r ρ' F' H' w' v q O' s' R') fun x ρ' q => q.back s)
theorem dr_nil : DL T (ROks T) X W [] (M.ret []) := fun F H w σ ρ Q O h => twA_of pa_nil (h F H w [] O Sp2.refl rfl)
theorem dr_cons {ma : M R} {ms : M (List R)} (ha : DE T X W e ma) (hs : DL T (ROks T) X W es ms) (hst : starEach (e :: es) X.env = (false, eval e X.env) :: starEach es X.env) : DL T (ROks T) X W (e :: es) (ma.bnd fun r => ms.bnd fun rs => M.ret (r :: rs)) := fun F H w σ ρ Q O h => by
  refine twA_of (pa_cons pe_tw pa_twA hst) ?_
  refine ha.run O Sp2.refl h fun r ρ1 F1 H1 w1 v h1 O1 s1 R1 => ?_
  refine hs.run O1 s1 h1 fun rs ρ2 F2 H2 w2 vs h2 O2 s2 R2 => ?_
  exact h2 F2 H2 w2 _ O2 (s1.trans s2) ⟨v, vs, rfl, R1.step s2, R2.old fun a z => s1.back z⟩
theorem dd_nil : DL T (RepA T) X W [] (M.ret []) := fun F H w σ ρ Q O h => twA_of pa_nil (h F H w [] O Sp2.refl rfl)
theorem dd_cons {ma : M R} {ms : M (List D)} (ha : DE T X W e ma) (hs : DL T (RepA T) X W es ms) (hst : starEach (e :: es) X.env = (false, eval e X.env) :: starEach es X.env) : DL T (RepA T) X W (e :: es) ((ma.bnd takeM).bnd fun r => ms.bnd fun rs => M.ret (r :: rs)) := fun F H w σ ρ Q O h => by
  refine twA_of (pa_cons pe_tw pa_twA hst) ?_
  refine ha.run O Sp2.refl (bnd_holds h) fun r ρ1 F1 H1 w1 v h1 O1 s1 R1 => ?_
  obtain ⟨d, ρ2, F2, w2, h2, O2, s2, r2⟩ := take_ok O1 s1 R1 h1
  refine hs.run O2 s2 h2 fun rs ρ3 F3 H3 w3 vs h3 O3 s3 R3 => ?_
  exact h3 F3 H3 w3 _ O3 (s2.trans s3) ⟨v, vs, rfl, Rep.mono s3.ext d v r2, R3⟩
theorem ar_ok {r : R} {v : V} {K : Ar → En → Prop} {E : Ex → En → Prop} (O : Ok T F H w σ ρ) (h : ROk T H0 F H w σ r v) (hk : (arOf r ρ).holds K E) : ∃ x, K x ρ ∧ AOk T H0 F H w σ x v := by
  unfold arOf at hk
  split at hk
  · exact ⟨_, hk, h⟩
  · exact ⟨_, hk, h⟩
  · have h' : σ[_]? = some (some v) := h
    split at hk
    · rename_i d e
      obtain ⟨u, q1, q2⟩ := O.sl _ _ e
      rw [h'] at q1
      cases q1
      exact ⟨_, hk, q2⟩
    · exact ⟨_, hk, h'⟩
    · exact hk.elim
theorem da_nil : DL T (AOksR T) X W [] (M.ret []) := fun F H w σ ρ Q O h => twA_of pa_nil (h F H w [] O Sp2.refl rfl)
theorem da_cons {ma : M R} {ms : M (List Ar)} (ha : DE T X W e ma) (hs : DL T (AOksR T) X W es ms) (hst : starEach (e :: es) X.env = (false, eval e X.env) :: starEach es X.env) : DL T (AOksR T) X W (e :: es) ((ma.bnd arOf).bnd fun r => ms.bnd fun rs => M.ret (r :: rs)) := fun F H w σ ρ Q O h => by
  refine twA_of (pa_cons pe_tw pa_twA hst) ?_
  refine ha.run O Sp2.refl (bnd_holds h) fun r ρ1 F1 H1 w1 v h1 O1 s1 R1 => ?_
  obtain ⟨x, h2, A2⟩ := ar_ok O1 R1 h1
  refine hs.run O1 s1 h2 fun rs ρ3 F3 H3 w3 vs h3 O3 s3 R3 => ?_
  refine h3 F3 H3 w3 _ O3 (s1.trans s3) ⟨v, vs, H1, rfl, A2.step s3, fun b z => s1.back z, fun p e1 e2 => ?_, R3⟩
  subst e2
  cases x with
  | tmp ds =>
    obtain ⟨p', vs', e3, _, _, _, q, _⟩ := A2
    cases e3
    exact some_ne q
  | inst c =>
    obtain ⟨p', dx, e3, _, _, _, q, _⟩ := A2
    cases e3
    exact some_ne q
  | dat d => cases e1
  | own i => cases e1
theorem de_tup {x1} {ms : M (List D)} (hs : DL T (RepA T) X W es ms) : DE T X W (.Tuple es x1 pos) (ms.bnd fun ds => if sz ds.length then M.ret (.val (.dat (.tup ds))) else fun _ => .stuck) := fun F H w σ ρ Q O h => by
  refine tw_of (pe_tup pa_twA) ?_
  refine hs.run O Sp2.refl h fun ds ρ1 F1 H1 w1 vs h1 O1 s1 R1 => ?_
  split at h1
  · rename_i hz
    exact ⟨by rw [Reps.len R1]; exact sz_le hz, out_newT O1 (KR.out s1 h1) R1⟩
  · exact h1.elim
theorem de_lst {ms : M (List D)} (hs : DL T (RepA T) X W es ms) : DE T X W (.List es pos) (ms.bnd fun ds => if sz ds.length then M.ret (.val (.lst ds)) else fun _ => .stuck) := fun F H w σ ρ Q O h => by
  refine tw_of (pe_lst pa_twA) ?_
  refine hs.run O Sp2.refl h fun ds ρ1 F1 H1 w1 vs h1 O1 s1 R1 => ?_
  split at h1
  · rename_i hz
    exact ⟨by rw [Reps.len R1]; exact sz_le hz, out_newL O1 (KR.out s1 h1) R1⟩
  · exact h1.elim

/-! ### subscripts, slices -/
def xU (X : Cx) : R2 := fun x y H Q => ∀ (value slice : Expr) (pins : List (Addr × Obj)) (s : Shared) (σ : St) (v u : Value), Inv X pins σ H s → RelV x v → RelV y u →
    subscripted slice false v u = operate [v, u] (getItem v u) → wpAny (model X.prog X.w) X.A (PyProof.Rows.subscriptTail value slice v u) (EP X pins σ Q) X.xe s
theorem xU_ok : IxR X (xU X) := fun value slice pins s σ H x y v u Q I rx ry h hs => h value slice pins s σ v u I rx ry hs
theorem xU_of {r : R2} {x y : V} {Q : VK} (h : IxR X r) (q : r x y H Q) : xU X x y H Q := fun value slice pins s σ v u I rx ry hs => h value slice pins s σ H x y v u Q I rx ry q hs
theorem atI_rep {ds : List D} {vs : List V} {i : Int} {d : D} (r : Reps T F ds vs) (h : atI ds i = some d) : ∃ v, atI vs i = some v ∧ Rep T F d v := by
  unfold atI at h ⊢
  rw [r.len]
  cases e : ixN ds.length i with
  | none => rw [e] at h; cases h
  | some j =>
    rw [e] at h
    exact r.get h
theorem cn_rep {x : FV} {v : V} {d : D} (O : Ok T F H w σ ρ) (c : Cn T F H x v) (e : x.frz = d) (hd : ∀ ds, d ≠ .lst ds) : Rep T F d v := by
  cases x with
  | dat d' => cases (show d' = d from e); exact c
  | lst ds => exact absurd e.symm (hd ds)
theorem ix_ok (c : Ctx T X) (O : Ok T F H w σ ρ) {x y : FV} {v u : V} {z : D} {Q : VK} (cx : Cn T F H x v) (cy : Cn T F H y u) (h : ixD x.frz y.frz = some z) (q : ∀ v', Rep T F z v' → Q v' H) : xU X v u H Q := by
  generalize ea : x.frz = a at h
  generalize eb : y.frz = b' at h
  unfold ixD at h
  split at h
  · obtain ⟨p, vs, rfl, h1, r⟩ := cx.list O.sub ea
    obtain ⟨v', e1, r'⟩ := atI_rep r h
    rw [cy.int eb]
    exact xU_of ix_list ⟨_, _, _, _, rfl, rfl, .of h1, e1, q _ r'⟩
  · obtain ⟨p, vs, rfl, h1, r⟩ := cx.tup O.sub ea
    obtain ⟨v', e1, r'⟩ := atI_rep r h
    rw [← c.K] at h1
    rw [cy.int eb]
    exact xU_of ix_tup ⟨_, _, _, _, rfl, rfl, O.sub.t h1, e1, q _ r'⟩
  · obtain ⟨p, vs, rfl, h1, r⟩ := cn_rep O cx ea (fun ds z => nomatch z)
    obtain ⟨v', e1, r'⟩ := atI_rep r h
    rw [← c.K] at h1
    rw [cy.int eb]
    exact xU_of ix_list ⟨_, _, _, _, rfl, rfl, O.sub.l h1, e1, q _ r'⟩
  · rename_i zz ii
    split at h
    · rename_i hz
      rw [cx.str ea, cy.int eb]
      cases e1 : atI zz.cps.toList ii with
      | none => rw [e1] at h; cases h
      | some c' =>
        rw [e1] at h
        cases h
        exact xU_of ix_str ⟨_, _, _, rfl, rfl, sz_le hz, e1, q _ rfl⟩
    · cases h
  · cases h
theorem de_ix (c : Ctx T X) {ma mb : M R} (ha : DE T X W a ma) (hb : DE T X W b mb) (hp : PlainIx b) : DE T X W (.Subscript a b pos) (ma.bnd fun r => mb.bnd fun q => (getM r).bnd fun x => (getM q).bnd fun y => (M.opt (ixD x.frz y.frz)).bnd fun z => M.ret (.val (.dat z))) := fun F H w σ ρ Q O h => by
  refine tw_of (pe_ix xU_ok pe_tw pe_tw hp) ?_
  refine ha.run O Sp2.refl h fun r ρ1 F1 H1 w1 v h1 O1 s1 R1 => ?_
  refine hb.run O1 s1 h1 fun q ρ2 F2 H2 w2 u h2 O2 s2 R2 => ?_
  obtain ⟨x, ex, h3⟩ := get_holds h2
  obtain ⟨y, ey, h4⟩ := get_holds h3
  obtain ⟨z, ez, h5⟩ := optb h4
  exact ix_ok c O2 ((R1.step s2).cn O2 ex) (R2.cn O2 ey) ez fun v' r' => KR.pure O2 (s1.trans s2) h5 r'
def DO (T : Tb) (X : Cx) (W : WX) (e : Option Expr) (m : M (Option Int)) : Prop := ∀ F H w σ ρ (Q : Option Int → Hp → Prop), Ok T F H w σ ρ → (m ρ).holds (fun o ρ' => ∀ F' H' w', Ok T F' H' w' σ ρ' → Sp2 F H w F' H' w' → Q o H') (KX T W F H w σ) → ∃ t, PO X e t ∧ t σ H Q
def twO (X : Cx) (e : Option Expr) : TO := fun σ H Q => ∃ t, PO X e t ∧ t σ H Q
theorem po_twO {e : Option Expr} : PO X e (twO X e) := ⟨fun pins s σ H Q I ⟨t, p, h⟩ => p.run pins s σ H Q I h⟩
theorem DO.run {β : Type} {e : Option Expr} {m : M (Option Int)} {f : Option Int → M β} {Kq : β → En → Prop} {Q : Option Int → Hp → Prop} (h : DO T X W e m) (O : Ok T F H w σ ρ) (s : Sp2 F0 H0 w0 F H w) (hm : (m.bnd f ρ).holds Kq (KX T W F0 H0 w0 σ))
    (k : ∀ r ρ' F' H' w', (f r ρ').holds Kq (KX T W F0 H0 w0 σ) → Ok T F' H' w' σ ρ' → Sp2 F H w F' H' w' → Q r H') : twO X e σ H Q :=
  h F H w σ ρ Q O (Out.holds_imp (bnd_holds hm) (fun r ρ' q F' H' w' O' s' => k r ρ' F' H' w' q O' s') fun x ρ' q => q.back s)
theorem do_none : DO T X W none (M.ret none) := fun F H w σ ρ Q O h => ⟨_, po_none, h F H w O Sp2.refl⟩
theorem do_some {ma : M R} (ha : DE T X W a ma) : DO T X W (some a) (ma.bnd fun r => (getM r).bnd fun x => (M.opt (asInt x)).bnd fun i => M.ret (some i)) := fun F H w σ ρ Q O h => by
  refine ⟨_, po_some pe_tw, ?_⟩
  refine ha.run O Sp2.refl h fun r ρ1 F1 H1 w1 v h1 O1 s1 R1 => ?_
  obtain ⟨x, ex, h3⟩ := get_holds h1
  obtain ⟨z, ez, h5⟩ := optb h3
  exact ⟨z, (R1.cn O1 ex).int (i := z) (by rw [asInt_int ez]; rfl), h5 _ _ _ O1 s1⟩
def slU (X : Cx) : V → Option Int → Option Int → Hp → VK → Prop := fun x lo hi H Q => ∀ (pins : List (Addr × Obj)) (s : Shared) (σ : St) (v vl vu : Value) (sl : Addr), Inv X pins σ H s → RelV x v → s.heap.IsSliceOf sl vl vu .none → IsPart vl lo → IsPart vu hi →
    ∃ T id, typeLookup (.type T) "__getitem__" = pure (some (.builtin id)) ∧ s.TypeIs v T ∧ wpAny (model X.prog X.w) X.A (getItem v (.ref sl)) (EP X pins σ Q) X.xe s
theorem slU_ok : SlR X (slU X) := fun pins s σ H x v vl vu lo hi sl Q I rx hs pl pu h => h pins s σ v vl vu sl I rx hs pl pu
theorem slU_of {r : V → Option Int → Option Int → Hp → VK → Prop} {x : V} {lo hi : Option Int} {Q : VK} (h : SlR X r) (q : r x lo hi H Q) : slU X x lo hi H Q := fun pins s σ v vl vu sl I rx hs pl pu => h pins s σ H x v vl vu lo hi sl Q I rx hs pl pu q
theorem Reps.drop : ∀ {ds : List D} {vs : List V} (n : Nat), Reps T F ds vs → Reps T F (ds.drop n) (vs.drop n)
  | ds, vs, 0, h => h
  | [], vs, n + 1, h => by rw [show vs = [] from h]; rfl
  | d :: ds, vs, n + 1, h => by
    obtain ⟨v, r, rfl, h1, h2⟩ := h
    exact Reps.drop n h2
theorem Reps.take : ∀ {ds : List D} {vs : List V} (n : Nat), Reps T F ds vs → Reps T F (ds.take n) (vs.take n)
  | ds, vs, 0, h => rfl
  | [], vs, n + 1, h => by rw [show vs = [] from h]; rfl
  | d :: ds, vs, n + 1, h => by
    obtain ⟨v, r, rfl, h1, h2⟩ := h
    exact ⟨v, _, rfl, h1, Reps.take n h2⟩
theorem Reps.cut {ds : List D} {vs : List V} (lo hi : Option Int) (h : Reps T F ds vs) : Reps T F (cutD ds lo hi) (cutV vs lo hi) := by
  unfold cutD cutV
  rw [h.len]
  exact (h.drop _).take _
theorem cutD_all {ds : List D} {lo hi : Option Int} (h : HT.sIx ds.length 0 lo = 0 ∧ HT.sIx ds.length ds.length hi = ds.length) : cutD ds lo hi = ds := by
  unfold cutD
  rw [h.1, h.2]
  simp
theorem sl_ok (c : Ctx T X) (O : Ok T F H w σ ρ) {x z : FV} {v : V} {lo hi : Option Int} {Q : VK} (cx : Cn T F H x v) (h : slD x.frz lo hi = some z) (q : Out1 T F H w σ ρ z Q) : slU X v lo hi H Q := by
  generalize ea : x.frz = a at h
  unfold slD at h
  split at h
  · cases h
    obtain ⟨p, vs, rfl, h1, r⟩ := cx.list O.sub ea
    exact slU_of sl_list ⟨_, _, rfl, .of h1, out_newL O q (r.cut lo hi)⟩
  · cases h
    obtain ⟨p, vs, rfl, h1, r⟩ := cx.tup O.sub ea
    have h1' := h1
    rw [← c.K] at h1
    refine slU_of sl_tupA ⟨_, _, rfl, O.sub.t h1, fun hw => ?_, fun _ => out_newT O q (r.cut lo hi)⟩
    rw [r.len] at hw
    rw [cutD_all hw] at q
    exact out_pure O q ⟨p, vs, rfl, h1', r⟩
  · cases h
    obtain ⟨p, vs, rfl, h1, r⟩ := cn_rep O cx ea (fun ds z => nomatch z)
    rw [← c.K] at h1
    exact slU_of sl_list ⟨_, _, rfl, O.sub.l h1, out_newL O q (r.cut lo hi)⟩
  · split at h <;> cases h
    rename_i hz
    rw [cx.str ea]
    exact slU_of sl_str ⟨_, rfl, sz_le hz, out_pure O q rfl⟩
  · cases h
theorem de_slc (c : Ctx T X) {lo hi : Option Expr} {ma : M R} {ml mh : M (Option Int)} {p2 : Pos} (ha : DE T X W a ma) (hl : DO T X W lo ml) (hh : DO T X W hi mh) :
    DE T X W (.Subscript a (.Slice lo hi none p2) pos) (ma.bnd fun r => ml.bnd fun l => mh.bnd fun h => (getM r).bnd fun x => (M.opt (slD x.frz l h)).bnd fun z => M.ret (.val z)) := fun F H w σ ρ Q O h => by
  refine tw_of (pe_slice slU_ok pe_tw po_twO po_twO) ?_
  refine ha.run O Sp2.refl h fun r ρ1 F1 H1 w1 v h1 O1 s1 R1 => ?_
  refine hl.run O1 s1 h1 fun l ρ2 F2 H2 w2 h2 O2 s2 => ?_
  refine hh.run O2 (s1.trans s2) h2 fun u ρ3 F3 H3 w3 h3 O3 s3 => ?_
  obtain ⟨x, ex, h4⟩ := get_holds h3
  obtain ⟨z, ez, h5⟩ := optb h4
  exact sl_ok c O3 (((R1.step s2).step s3).cn O3 ex) ez (KR.out ((s1.trans s2).trans s3) h5)
theorem Reps.reverse : ∀ {ds : List D} {vs : List V}, Reps T F ds vs → Reps T F ds.reverse vs.reverse
  | [], vs, h => by rw [show vs = [] from h]; rfl
  | d :: ds, vs, h => by
    obtain ⟨v, r, rfl, h1, h2⟩ := h
    rw [List.reverse_cons, List.reverse_cons]
    exact (Reps.reverse h2).append ⟨v, [], rfl, h1, rfl⟩
theorem de_slr (c : Ctx T X) {ma : M R} {k : Nat} {p1 p2 p3 : Pos} (ha : DE T X W a ma) : DE T X W (.Subscript a (.Slice none none (some (.UnaryOp .USub (.Constant (.int 1) k p1) p2)) p3) pos) (ma.bnd fun r => (getM r).bnd fun x => match x.frz with
    | .lst ds => M.ret (.val (.lst ds.reverse))
    | _ => fun _ => .stuck) := fun F H w σ ρ Q O h => by
  refine tw_of (pe_revL pe_tw) ?_
  refine ha.run O Sp2.refl h fun r ρ1 F1 H1 w1 v h1 O1 s1 R1 => ?_
  obtain ⟨x, ex, h3⟩ := get_holds h1
  generalize ea : x.frz = d at h3
  split at h3
  · obtain ⟨p, vs, rfl, h4, r⟩ := (R1.cn O1 ex).list O1.sub ea
    exact ⟨_, _, rfl, .of h4, out_newL O1 (KR.out s1 h3) r.reverse⟩
  · exact h3.elim
end
end Dv
end
section
set_option maxRecDepth 100000
set_option linter.all false
set_option Elab.async false
open PySem PySem.Spec PyProof.Rows L2
namespace Dv
theorem ints_at : ∀ {its : List Value} {is : List Int}, IntsAre its is → ∀ {i : Nat} {v : Value}, its[i]? = some v → ∃ n t, v = .int n t ∧ is[i]? = some n
  | _, _, .nil, i, v, h => by cases h
  | _, _, .cons n t r, 0, v, h => by cases h; exact ⟨n, t, rfl, rfl⟩
  | _, _, .cons n t r, i + 1, v, h => ints_at r (i := i) h
theorem ints_len : ∀ {its : List Value} {is : List Int}, IntsAre its is → its.length = is.length
  | _, _, .nil => rfl
  | _, _, .cons n t r => congrArg (· + 1) (ints_len r)
theorem truth_ints {prog : Program} {w : World} {A : Around} {is : List Int} {its : List Value} (e : IntsAre its is) :
    TruthOf prog w A (fun i v => its.toArray[i]? = some v) (fun i => (is.map (· != 0)).getD i false) := fun i v s Q E hv hq => by
  have hv' : its[i]? = some v := by simpa using hv
  obtain ⟨n, t, rfl, hb⟩ := ints_at e hv'
  have hg : (is.map (· != 0)).getD i false = (n != 0) := by rw [List.getD_eq_getElem?_getD, List.getElem?_map, hb] <;> rfl
  have hq' : Q ((is.map (· != 0)).getD i false) s := hq
  rw [hg] at hq'
  exact PySem.P.truthy_int hq'
variable {X : Cx}
def rAllI (K : PySem.W.Frag) : List V → Hp → VK → Prop := fun vs H Q => ∃ (a : Addr) (is : List Int), vs = [V.ref a] ∧ SqL K H a (is.map V.int) ∧ Q (.bl (is.all (· != 0))) H
theorem cr_allI (hc : X.calm = true) : CallR X (.builtin "all") (rAllI X.K) := by
  intro pins s σ H vs us Q I r h
  obtain ⟨a, bs, rfl, hs, q⟩ := h
  obtain ⟨its, rv, hl, _⟩ := I.list hs
  rw [Vals.ref1 r]
  have hb := rv.ints
  refine call_all_walk (iter_any hl.isList fun s₂ e2 st hne => ?_)
  subst e2
  refine ⟨_, _, _, _, _, _, _, rfl, Walks.list (A := X.A.in1) (I.ok.hd hc) _ a hne its.toArray, st, truth_ints hb, fun h' tk hk => ?_⟩
  refine ⟨.bl _, H, I.kept fun b o eo => hk b o (fun hmem => ?_) (Heap.get?_push_of_some _ eo), ?_, q⟩
  · rcases List.mem_cons.mp hmem with e1 | hmem
    · exact absurd (e1 ▸ Heap.lt_size eo) (Nat.lt_irrefl _)
    · cases hmem
  · show Value.bool _ = Value.bool _
    have z := all_range (bs.map (· != 0))
    rw [List.length_map, List.all_map] at z
    rw [List.size_toArray, ints_len hb]
    exact congrArg Value.bool z
end Dv
end
section
set_option Elab.async false
set_option maxRecDepth 100000
set_option linter.all false
/-! Built-in functions, methods -/
namespace Dv
open PySem PySem.Spec L2

def Cns (T : Tb) (F H : Hp) : List FV → List V → Prop
  | [], vs => vs = []
  | x :: xs, vs => ∃ v us, vs = v :: us ∧ Cn T F H x v ∧ Cns T F H xs us
section
variable {T : Tb} {X : Cx} {W : WX} {F H F0 H0 F' H' : Hp} {w w0 w' : Wn} {σ : St} {ρ : En} {a b e : Expr} {es : List Expr} {pos : Pos}
theorem getAll_cns (O : Ok T F H w σ ρ) : ∀ {rs : List R} {vs : List V} {xs : List FV}, ROks T H0 F H w σ rs vs → getAll rs ρ = some xs → Cns T F H xs vs
  | [], vs, xs, h, g => by
    cases (show some [] = some xs from g)
    exact h
  | r :: rs, vs, xs, h, g => by
    obtain ⟨v, us, e, h1, h2⟩ := h
    unfold getAll at g
    split at g
    · rename_i x ys e1 e2
      cases g
      exact ⟨v, us, e, h1.cn O e1, getAll_cns O h2 e2⟩
    · cases g
theorem intsOf_some : ∀ {ys : List D} {ns : List Int}, intsOf ys = some ns → ys = ns.map D.int
  | [], ns, h => by cases h; rfl
  | .int i :: r, ns, h => by
    have h' : (intsOf r).map (i :: ·) = some ns := h
    cases e : intsOf r with
    | none => rw [e] at h'; cases h'
    | some ms =>
      rw [e] at h'
      cases h'
      rw [intsOf_some e]
      rfl
  | .non :: _, _, h | .bl _ :: _, _, h | .str _ :: _, _, h | .tup _ :: _, _, h | .lst _ :: _, _, h | .scr _ :: _, _, h | .tpk _ :: _, _, h | .ins _ _ :: _, _, h | .exc _ _ :: _, _, h | .dct _ _ :: _, _, h => nomatch h
theorem strsOf_some : ∀ {ys : List D} {ns : List Str}, strsOf ys = some ns → ys = ns.map D.str
  | [], ns, h => by cases h; rfl
  | .str i :: r, ns, h => by
    have h' : (strsOf r).map (i :: ·) = some ns := h
    cases e : strsOf r with
    | none => rw [e] at h'; cases h'
    | some ms =>
      rw [e] at h'
      cases h'
      rw [strsOf_some e]
      rfl
  | .non :: _, _, h | .bl _ :: _, _, h | .int _ :: _, _, h | .tup _ :: _, _, h | .lst _ :: _, _, h | .scr _ :: _, _, h | .tpk _ :: _, _, h | .ins _ _ :: _, _, h | .exc _ _ :: _, _, h | .dct _ _ :: _, _, h => nomatch h
theorem blsOf_some : ∀ {ys : List D} {ns : List Bool}, blsOf ys = some ns → ys = ns.map D.bl
  | [], ns, h => by cases h; rfl
  | .bl i :: r, ns, h => by
    have h' : (blsOf r).map (i :: ·) = some ns := h
    cases e : blsOf r with
    | none => rw [e] at h'; cases h'
    | some ms =>
      rw [e] at h'
      cases h'
      rw [blsOf_some e]
      rfl
  | .non :: _, _, h | .str _ :: _, _, h | .int _ :: _, _, h | .tup _ :: _, _, h | .lst _ :: _, _, h | .scr _ :: _, _, h | .tpk _ :: _, _, h | .ins _ _ :: _, _, h | .exc _ _ :: _, _, h | .dct _ _ :: _, _, h => nomatch h
theorem reps_ints : ∀ {ns : List Int} {vs : List V}, Reps T F (ns.map D.int) vs → vs = ns.map V.int
  | [], vs, h => h
  | n :: ns, vs, h => by
    obtain ⟨v, us, rfl, h1, h2⟩ := h
    rw [reps_ints h2, show v = .int n from h1]
    rfl
theorem reps_strs : ∀ {ns : List Str} {vs : List V}, Reps T F (ns.map D.str) vs → vs = ns.map V.str
  | [], vs, h => h
  | n :: ns, vs, h => by
    obtain ⟨v, us, rfl, h1, h2⟩ := h
    rw [reps_strs h2, show v = .str n from h1]
    rfl
theorem reps_bls : ∀ {ns : List Bool} {vs : List V}, Reps T F (ns.map D.bl) vs → vs = ns.map V.bl
  | [], vs, h => h
  | n :: ns, vs, h => by
    obtain ⟨v, us, rfl, h1, h2⟩ := h
    rw [reps_bls h2, show v = .bl n from h1]
    rfl
theorem reps_of_ints : ∀ (ns : List Int), Reps T F (ns.map D.int) (ns.map V.int)
  | [] => rfl
  | n :: ns => ⟨_, _, rfl, rfl, reps_of_ints ns⟩
theorem reps_of_strs : ∀ (ns : List Str), Reps T F (ns.map D.str) (ns.map V.str)
  | [] => rfl
  | n :: ns => ⟨_, _, rfl, rfl, reps_of_strs ns⟩
theorem maxL_top (n : Int) : ∀ (ns : List Int), (maxL n ns = n ∨ maxL n ns ∈ ns) ∧ n ≤ maxL n ns ∧ ∀ y ∈ ns, y ≤ maxL n ns := by
  intro ns
  unfold maxL
  induction ns generalizing n with
  | nil => exact ⟨.inl rfl, Int.le_refl _, fun y z => nomatch z⟩
  | cons k r ih =>
    obtain ⟨h1, h2, h3⟩ := ih (max n k)
    rw [List.foldl_cons]
    refine ⟨?_, by omega, fun y hy => ?_⟩
    · rcases h1 with h1 | h1
      · rw [h1]
        by_cases c : n ≤ k
        · exact .inr (by rw [Int.max_eq_right c]; exact List.mem_cons_self)
        · exact .inl (Int.max_eq_left (by omega))
      · exact .inr (List.mem_cons_of_mem _ h1)
    · rcases List.mem_cons.mp hy with rfl | hy
      · omega
      · exact h3 y hy
theorem reads_ints_alike (ns : List Int) : PySem.W.AlikeAll (ns.map PyData.int) := by
  refine ⟨fun x hx y hy => ?_, fun x hx => ?_⟩
  · obtain ⟨i, _, rfl⟩ := List.mem_map.mp hx
    obtain ⟨j, _, rfl⟩ := List.mem_map.mp hy
    rfl
  · obtain ⟨i, _, rfl⟩ := List.mem_map.mp hx
    exact fun z => nomatch z
theorem dpAll_ints {K : PySem.W.Frag} : ∀ (ns : List Int), DpAll K H (ns.map V.int) (ns.map PyData.int)
  | [] => .nil
  | n :: ns => .cons (.int n) (dpAll_ints ns)
theorem depth_ints : ∀ (ns : List Int), PyData.depthAll (ns.map PyData.int) = 0
  | [] => rfl
  | n :: ns => by
    show max (PyData.depth (.int n)) (PyData.depthAll (ns.map PyData.int)) = 0
    rw [depth_ints ns]
    rfl
theorem reads_int {h : Heap} {v : Value} {i : Int} {bs : List Addr} (r : Reads h v (.int i) bs) : RelV (.int i) v := by
  cases r with
  | int _ t => exact ⟨t, rfl⟩
/-- max of a tuple of ints -/
theorem cr_maxT (hc : X.calm = true) (hu : X.A.units + 65 < cLine) : CallR X (.builtin "max") (fun vs H Q => ∃ (a : Addr) (n : Int) (ns : List Int), vs = [V.ref a] ∧ SqT X.K H a ((n :: ns).map V.int) ∧ Q (.int (maxL n ns)) H) := by
  intro pins s σ H vs us Q I r h
  obtain ⟨a, n, ns, rfl, hs, q⟩ := h
  obtain ⟨its, rv, hl, _⟩ := I.tuple hs
  rw [Vals.ref1 r]
  obtain ⟨as, ra⟩ := Dp.readsAll I ((n :: ns).map PyData.int) _ its (dpAll_ints _) rv
  refine PySem.W.max_tuple_data (x := .int n) (xs := ns.map PyData.int) (as := as) (I.ok.hd hc) hl (show ReadsAll s.heap its.toArray.toList _ as from ra) (reads_ints_alike (n :: ns)) ?_ fun i v h' tk bs _ rd hk => ?_
  · have : PyData.depthAll ((n :: ns).map PyData.int) = 0 := depth_ints _
    show X.A.units + 1 + PyData.depthAll ((n :: ns).map PyData.int) < cLine
    omega
  · rw [PySem.W.maxD_ints] at rd
    exact ⟨.int _, H, I.kept hk, reads_int rd, q⟩
/-- max(list of ints, default=d) -/
theorem cr_maxDef (hc : X.calm = true) (hu : X.A.units + 65 < cLine) : CallRK X (.builtin "max") [Str.ofString "default"] (fun vs zs H Q => ∃ (a : Addr) (ns : List Int) (d : Int), vs = [V.ref a] ∧ zs = [V.int d] ∧ SqL X.K H a (ns.map V.int) ∧
    Q (.int (match ns with | [] => d | n :: ms => maxL n ms)) H) := by
  intro pins s σ H vs zs us ws Q I r rz h
  obtain ⟨a, ns, d, rfl, rfl, hs, q⟩ := h
  obtain ⟨its, rv, hl, _⟩ := I.list hs
  rw [Vals.ref1 r]
  obtain ⟨dv, rfl, rd0⟩ := vals1 rz
  obtain ⟨as, ra⟩ := Dp.readsAll I (ns.map PyData.int) _ its (dpAll_ints _) rv
  refine PySem.W.max_list_default (xs := ns.map PyData.int) (as := as) (I.ok.hd hc) hl.isList (show ReadsAll s.heap its.toArray.toList _ as from ra) (reads_ints_alike ns) (by rw [depth_ints]; omega) (fun e h' tk hk => ?_) fun y ys i v h' tk bs e _ rd hk => ?_
  · cases ns with
    | nil => exact ⟨.int d, H, I.kept hk, rd0, q⟩
    | cons _ _ => cases e
  · cases ns with
    | nil => cases e
    | cons n ms =>
      injection e with e1 e2
      subst e1 e2
      rw [PySem.W.maxD_ints] at rd
      exact ⟨.int _, H, I.kept hk, reads_int rd, q⟩
/-- tuple(list), and what is known of its object -/
theorem cr_tupleK : CallR X (.type "tuple") (fun xs H Q => ∃ p ys, xs = [.ref p] ∧ SqL X.K H p ys ∧ ∀ (l : Addr) (ob : Obj), ob.dict = none → H l = none → Q (.ref l) (upd H l (.frz ob (.tup ys)))) := by
  intro pins s σ H xs us Q I r h
  obtain ⟨p, ys, rfl, hq, q⟩ := h
  obtain ⟨u, rfl, rx⟩ := vals1 r
  cases rx
  obtain ⟨its, r', pl, hz⟩ := I.list hq
  have hlen := r'.length
  refine call_tuple_list pl.isList (fun h' kp => ?_) (by simp only [List.size_toArray] <;> omega)
  have I1 : Inv X pins σ H { s with heap := h' } := I.kept (t' := s.toks) kp
  have I2 : Inv X pins σ (upd H h'.objs.size (.frz { cls := .type "tuple", data := .seq its.toArray } (.tup ys))) { s with heap := h'.push { cls := .type "tuple", data := .seq its.toArray } } :=
    I1.laid (t' := s.toks) (fun b o e => Heap.get?_push_of_some _ e) (Nat.le_refl _) ⟨Heap.get?_push_size _ rfl, hz, its, r', ⟨_, Heap.get?_push_size _ rfl, rfl, _, rfl⟩⟩
  exact ⟨.ref h'.objs.size, _, I2, rfl, q _ _ rfl (I1.hok.fresh (Nat.le_refl _))⟩
theorem out_newTp {ds : List D} {vs : List V} {Q : VK} (O : Ok T F H w σ ρ) (q : Out1 T F H w σ ρ (.dat (.tpk ds)) Q) (r : Reps T F ds vs) (p : Addr) (ob : Obj) (hob : ob.dict = none) (hp : H p = none) : Q (.ref p) (upd H p (.frz ob (.tup vs))) := by
  obtain ⟨O', s'⟩ := newF_ok (o := .frz ob (.tup vs)) O Sp2.refl hp
  exact q _ _ _ O' s' ⟨p, vs, ob, rfl, upd_same, Reps.mono s'.ext ds vs r, hob⟩
/-- the object that a built-in function's name stands for -/
def biV : BI → Value
  | .len => .builtin "len"
  | .str => .type "str"
  | .int => .type "int"
  | .list => .type "list"
  | .tuple => .type "tuple"
  | .tupleK => .type "tuple"
  | .sum => .builtin "sum"
  | .max1 => .builtin "max"
  | .max2 => .builtin "max"
  | .min2 => .builtin "min"
  | .all_ => .builtin "all"
  | .allI => .builtin "all"
  | .any_ => .builtin "any"
  | .abs => .builtin "abs"
  | .bool => .type "bool"
  | _ => .none
theorem cns1 {x : FV} {vs : List V} (h : Cns T F H [x] vs) : ∃ v, vs = [v] ∧ Cn T F H x v := by
  obtain ⟨v, us, rfl, h1, rfl⟩ := h
  exact ⟨v, rfl, h1⟩
theorem cns2 {x y : FV} {vs : List V} (h : Cns T F H [x, y] vs) : ∃ v u, vs = [v, u] ∧ Cn T F H x v ∧ Cn T F H y u := by
  obtain ⟨v, us, rfl, h1, u, us', rfl, h2, rfl⟩ := h
  exact ⟨v, u, rfl, h1, h2⟩
theorem map1 {xs : List FV} {d : D} (h : xs.map FV.frz = [d]) : ∃ x, xs = [x] ∧ x.frz = d := by
  match xs, h with
  | [x], h => exact ⟨x, rfl, List.head_eq_of_cons_eq h⟩
theorem map2 {xs : List FV} {d e : D} (h : xs.map FV.frz = [d, e]) : ∃ x y, xs = [x, y] ∧ x.frz = d ∧ y.frz = e := by
  match xs, h with
  | [x, y], h =>
    rw [List.map_cons, List.map_cons, List.map_nil] at h
    injection h with h1 h2
    injection h2 with h2 _
    exact ⟨x, y, rfl, h1, h2⟩
theorem bi_ok (c : Ctx T X) (O : Ok T F H w σ ρ) {bf : BI} {xs : List FV} {vs : List V} {z : FV} {Q : VK} (cx : Cns T F H xs vs) (h : bi bf (xs.map FV.frz) = some z) (hb : biV bf ≠ .none) (q : Out1 T F H w σ ρ z Q) : cU X (biV bf) vs H Q := by
  have one : ∀ {d : D}, xs.map FV.frz = [d] → ∃ x v, vs = [v] ∧ Cn T F H x v ∧ x.frz = d := fun e => by
    obtain ⟨x, rfl, e1⟩ := map1 e
    obtain ⟨v, e2, c1⟩ := cns1 cx
    exact ⟨x, v, e2, c1, e1⟩
  have two : ∀ {d e : D}, xs.map FV.frz = [d, e] → ∃ x y v u, vs = [v, u] ∧ Cn T F H x v ∧ x.frz = d ∧ Cn T F H y u ∧ y.frz = e := fun e => by
    obtain ⟨x, y, rfl, e1, e2⟩ := map2 e
    obtain ⟨v, u, e3, c1, c2⟩ := cns2 cx
    exact ⟨x, y, v, u, e3, c1, e1, c2, e2⟩
  generalize ea : xs.map FV.frz = ds at h one two
  unfold bi at h
  split at h
  · cases h
    obtain ⟨x, v, rfl, c1, e1⟩ := one rfl
    obtain ⟨p, us, rfl, h1, r⟩ := c1.list O.sub e1
    refine cU_of call_len_seq ⟨p, us, rfl, .inl (.of h1), ?_⟩
    rw [r.len]
    exact out_pure O q rfl
  · cases h
    obtain ⟨x, v, rfl, c1, e1⟩ := one rfl
    obtain ⟨p, us, rfl, h1, r⟩ := cn_rep O c1 e1 (fun ds z => nomatch z)
    rw [← c.K] at h1
    refine cU_of call_len_seq ⟨p, us, rfl, .inl (O.sub.l h1), ?_⟩
    rw [r.len]
    exact out_pure O q rfl
  · cases h
    obtain ⟨x, v, rfl, c1, e1⟩ := one rfl
    obtain ⟨p, us, rfl, h1, r⟩ := c1.tup O.sub e1
    rw [← c.K] at h1
    refine cU_of call_len_seq ⟨p, us, rfl, .inr (O.sub.t h1), ?_⟩
    rw [r.len]
    exact out_pure O q rfl
  · split at h <;> cases h
    rename_i hz
    obtain ⟨x, v, rfl, c1, e1⟩ := one rfl
    rw [c1.str e1]
    exact cU_of call_len_str ⟨_, rfl, sz_le hz, out_pure O q rfl⟩
  · split at h <;> cases h
    rename_i hz
    obtain ⟨x, v, rfl, c1, e1⟩ := one rfl
    rw [c1.int e1]
    exact cU_of call_str_int ⟨_, rfl, of_decide_eq_true hz, out_pure O q rfl⟩
  · cases h
    obtain ⟨x, v, rfl, c1, e1⟩ := one rfl
    rw [c1.int e1]
    exact cU_of call_int1 (.inl ⟨_, rfl, out_pure O q rfl⟩)
  · cases h
    obtain ⟨x, v, rfl, c1, e1⟩ := one rfl
    rw [c1.bl e1]
    exact cU_of call_int1 (.inr ⟨_, rfl, out_pure O q rfl⟩)
  · rename_i z'
    split at h
    · rename_i hz
      obtain ⟨x, v, rfl, c1, e1⟩ := one rfl
      rw [c1.str e1]
      cases e : PySem.intText? z' with
      | none => rw [e] at h; cases h
      | some n =>
        rw [e] at h
        cases h
        exact cU_of call_int_str ⟨_, _, rfl, e, of_decide_eq_true hz, out_pure O q rfl⟩
    · cases h
  · cases h
    obtain ⟨x, v, rfl, c1, e1⟩ := one rfl
    obtain ⟨p, us, rfl, h1, r⟩ := c1.list O.sub e1
    exact cU_of call_list_of ⟨p, us, rfl, .inl (.of h1), out_newL O q r⟩
  · cases h
    obtain ⟨x, v, rfl, c1, e1⟩ := one rfl
    obtain ⟨p, us, rfl, h1, r⟩ := c1.tup O.sub e1
    rw [← c.K] at h1
    exact cU_of call_list_of ⟨p, us, rfl, .inr (O.sub.t h1), out_newL O q r⟩
  · cases h
    obtain ⟨x, v, rfl, c1, e1⟩ := one rfl
    obtain ⟨p, us, rfl, h1, r⟩ := c1.list O.sub e1
    exact cU_of call_tuple_of ⟨p, us, rfl, .inl ⟨.of h1, out_newT O q r⟩⟩
  · cases h
    obtain ⟨x, v, rfl, c1, e1⟩ := one rfl
    obtain ⟨p, us, rfl, h1, r⟩ := c1.tup O.sub e1
    have h1' := h1
    rw [← c.K] at h1
    exact cU_of call_tuple_of ⟨p, us, rfl, .inr ⟨O.sub.t h1, out_pure O q ⟨p, us, rfl, h1', r⟩⟩⟩
  · rename_i ys
    cases e : intsOf ys with
    | none => rw [e] at h; cases h
    | some ns =>
      rw [e] at h
      cases h
      obtain ⟨x, v, rfl, c1, e1⟩ := one rfl
      obtain ⟨p, us, rfl, h1, r⟩ := c1.list O.sub e1
      rw [intsOf_some e] at r
      rw [reps_ints r] at h1
      exact cU_of (cr_sum c.calm) ⟨p, ns, rfl, .of h1, out_pure O q rfl⟩
  · split at h
    · rename_i n ns e
      cases h
      obtain ⟨x, v, rfl, c1, e1⟩ := one rfl
      obtain ⟨p, us, rfl, h1, r⟩ := c1.list O.sub e1
      rw [intsOf_some e] at r
      rw [reps_ints r] at h1
      refine cU_of (cr_max c.calm) ⟨p, n :: ns, rfl, .of h1, by simp, fun m h2 h3 => ?_⟩
      obtain ⟨k1, k2, k3⟩ := maxL_top n ns
      have e4 : m = maxL n ns := by
        have a1 : m ≤ maxL n ns := by
          rcases List.mem_cons.mp h2 with rfl | h2
          · exact k2
          · exact k3 m h2
        have a2 : maxL n ns ≤ m := by
          rcases k1 with k1 | k1
          · rw [k1]; exact h3 n List.mem_cons_self
          · exact h3 _ (List.mem_cons_of_mem _ k1)
        omega
      subst e4
      exact out_pure O q rfl
    · cases h
  · exact absurd rfl hb
  · exact absurd rfl hb
  · exact absurd rfl hb
  · exact absurd rfl hb
  · exact absurd rfl hb
  · cases h
    obtain ⟨x, v, rfl, c1, e1⟩ := one rfl
    obtain ⟨p, us, rfl, h1, r⟩ := c1.list O.sub e1
    exact cU_of cr_tupleK ⟨p, us, rfl, .of h1, out_newTp O q r⟩
  · split at h
    · rename_i n ns e
      cases h
      obtain ⟨x, v, rfl, c1, e1⟩ := one rfl
      obtain ⟨p, us, rfl, h1, r⟩ := c1.tup O.sub e1
      rw [← c.K] at h1
      rw [intsOf_some e] at r
      rw [reps_ints r] at h1
      exact cU_of (cr_maxT c.calm c.un) ⟨p, n, ns, rfl, O.sub.t h1, out_pure O q rfl⟩
    · cases h
  · cases h
    obtain ⟨x, y, v, u, rfl, c1, e1, c2, e2⟩ := two rfl
    rw [c1.int e1, c2.int e2]
    exact cU_of (call_max2 c.calm) ⟨_, _, rfl, out_pure O q rfl⟩
  · cases h
    obtain ⟨x, y, v, u, rfl, c1, e1, c2, e2⟩ := two rfl
    rw [c1.int e1, c2.int e2]
    exact cU_of (call_min2 c.calm) ⟨_, _, rfl, out_pure O q rfl⟩
  · rename_i ys
    cases e : blsOf ys with
    | none => rw [e] at h; cases h
    | some ns =>
      rw [e] at h
      cases h
      obtain ⟨x, v, rfl, c1, e1⟩ := one rfl
      obtain ⟨p, us, rfl, h1, r⟩ := c1.list O.sub e1
      rw [blsOf_some e] at r
      rw [reps_bls r] at h1
      exact cU_of (cr_all c.calm) ⟨p, ns, rfl, .of h1, out_pure O q rfl⟩
  · rename_i ys
    cases e : intsOf ys with
    | none => rw [e] at h; cases h
    | some ns =>
      rw [e] at h
      cases h
      obtain ⟨x, v, rfl, c1, e1⟩ := one rfl
      obtain ⟨p, us, rfl, h1, r⟩ := c1.list O.sub e1
      rw [intsOf_some e] at r
      rw [reps_ints r] at h1
      exact cU_of (cr_allI c.calm) ⟨p, ns, rfl, .of h1, out_pure O q rfl⟩
  · rename_i ys
    cases e : blsOf ys with
    | none => rw [e] at h; cases h
    | some ns =>
      rw [e] at h
      cases h
      obtain ⟨x, v, rfl, c1, e1⟩ := one rfl
      obtain ⟨p, us, rfl, h1, r⟩ := c1.list O.sub e1
      rw [blsOf_some e] at r
      rw [reps_bls r] at h1
      exact cU_of (cr_any c.calm) ⟨p, ns, rfl, .of h1, out_pure O q rfl⟩
  · cases h
    obtain ⟨x, v, rfl, c1, e1⟩ := one rfl
    rw [c1.int e1]
    exact cU_of call_abs ⟨_, rfl, out_pure O q rfl⟩
  · cases h
    obtain ⟨x, v, rfl, c1, e1⟩ := one rfl
    rw [c1.int e1]
    exact cU_of call_bool1 (.inl ⟨_, rfl, out_pure O q rfl⟩)
  · cases h
    obtain ⟨x, v, rfl, c1, e1⟩ := one rfl
    rw [c1.bl e1]
    exact cU_of call_bool1 (.inr ⟨_, rfl, out_pure O q rfl⟩)
  · cases h
/-- f(e, ..), f a built-in function or type -/
theorem de_bc (c : Ctx T X) {bf : BI} {x : Str} {p : Pos} {ms : M (List R)} (hs : DL T (ROks T) X W (e :: es) ms) (hg : Gl X x) (hm : X.mg x = none) (hv : bootBuiltins x = some (biV bf)) (hb : biV bf ≠ .none) (hn : x ≠ "__name__") (hdb : (x == ("__debug__" : Str)) = false)
    (he : starEach (e :: es) X.env = (false, eval e X.env) :: starEach es X.env) (hpl : (PySem.backTo pos (starEach es X.env)).any (·.1) = false) :
    DE T X W (.Call (.Name x p) (e :: es) [] pos) (ms.bnd fun rs => (getAllM rs).bnd fun xs => (M.opt (bi bf (xs.map FV.frz))).bnd fun z => M.ret (.val z)) := fun F H w σ ρ Q O h => by
  have hp : PE X (.Call (.Name x p) (e :: es) [] pos) (tCB (cU X (biV bf)) (twA X (e :: es))) := by
    cases bf
    all_goals first
      | exact absurd rfl hb
      | exact pe_callB cU_ok hg hm hv pa_twA hn hdb he hpl
      | exact pe_callTy cU_ok hg hm hv pa_twA hn hdb he hpl
  refine tw_of hp ?_
  refine hs.run O Sp2.refl h fun rs ρ1 F1 H1 w1 vs h1 O1 s1 R1 => ?_
  obtain ⟨xs, ex, h3⟩ := optb (o := getAll rs ρ1) h1
  obtain ⟨z, ez, h5⟩ := optb h3
  exact bi_ok c O1 (getAll_cns O1 R1 ex) ez hb (KR.out s1 h5)
end
end Dv
end
section
set_option Elab.async false
set_option maxRecDepth 100000
set_option linter.all false
/-! Methods of built-in types, fields, isinstance -/
namespace Dv
open PySem PySem.Spec L2

def tyG (K : PySem.W.Frag) (n : String) : V → Hp → Prop := fun v H => tyV K n v H ∨ (n = "tuple" ∧ ∃ p ob vs, v = .ref p ∧ H p = some (.frz ob (.tup vs)) ∧ ob.dict = none)
def bmT : BM → String
  | .join | .split | .partition | .upper | .replace => "str"
  | .index | .count => "list"
  | .indexK | .countK | .indexT => "tuple"
  | .bitLength => "int"
def bmN : BM → Str
  | .join => "join" | .split => "split" | .partition => "partition" | .upper => "upper" | .replace => "replace"
  | .index => "index" | .count => "count" | .indexK => "index" | .countK => "count" | .bitLength => "bit_length" | .indexT => "index"
def bmI : BM → String
  | .join => "str.join" | .split => "str.split" | .partition => "str.partition" | .upper => "str.upper" | .replace => "str.replace"
  | .index => "list.index" | .count => "list.count" | .indexK => "tuple.index" | .countK => "tuple.count" | .indexT => "tuple.index" | .bitLength => "int.bit_length"
def mmN : MM → Str
  | .append => "append" | .pop => "pop" | .popAt => "pop" | .remove => "remove" | .clear => "clear" | .extend => "extend" | .reverse => "reverse"
def mmI : MM → String
  | .append => "list.append" | .pop => "list.pop" | .popAt => "list.pop" | .remove => "list.remove" | .clear => "list.clear" | .extend => "list.extend" | .reverse => "list.reverse"
/-- what the library must know of a method -/
structure BmK (n : String) (name : Str) (id : String) : Prop where
  pa : PlainAttrs n
  slot : Slot n name id
  ty : typeOf (.builtin id) = pure (.type "method_descriptor")
theorem bmK : ∀ b : BM, b ≠ .replace → BmK (bmT b) (bmN b) (bmI b)
  | .join, _ => ⟨PySem.F.plainAttrs_str, PySem.F.slot_str_join, PySem.F.type_str_join⟩
  | .split, _ => ⟨PySem.F.plainAttrs_str, PySem.F.slot_str_split, PySem.F.type_str_split⟩
  | .partition, _ => ⟨PySem.F.plainAttrs_str, PySem.F.slot_str_partition, PySem.F.type_str_partition⟩
  | .upper, _ => ⟨PySem.F.plainAttrs_str, PySem.F.slot_str_upper, PySem.F.type_str_upper⟩
  | .index, _ => ⟨PySem.F.plainAttrs_list, PySem.F.slot_list_index, PySem.F.type_list_index⟩
  | .count, _ => ⟨PySem.F.plainAttrs_list, PySem.F.slot_list_count, PySem.F.type_list_count⟩
  | .indexK, _ => ⟨PySem.F.plainAttrs_tuple, PySem.F.slot_tuple_index, PySem.F.type_tuple_index⟩
  | .countK, _ => ⟨PySem.F.plainAttrs_tuple, PySem.F.slot_tuple_count, PySem.F.type_tuple_count⟩
  | .indexT, _ => ⟨PySem.F.plainAttrs_tuple, PySem.F.slot_tuple_index, PySem.F.type_tuple_index⟩
  | .bitLength, _ => ⟨PySem.F.plainAttrs_int, PyProof.Rows.slot_int_bit_length, PyProof.Rows.type_int_bit_length⟩
  | .replace, h => absurd rfl h
theorem mmK : ∀ m : MM, BmK "list" (mmN m) (mmI m)
  | .append => ⟨PySem.F.plainAttrs_list, PySem.F.slot_list_append, PySem.F.type_list_append⟩
  | .pop => ⟨PySem.F.plainAttrs_list, PySem.F.slot_list_pop, PySem.F.type_list_pop⟩
  | .popAt => ⟨PySem.F.plainAttrs_list, PySem.F.slot_list_pop, PySem.F.type_list_pop⟩
  | .remove => ⟨PySem.F.plainAttrs_list, PySem.F.slot_list_remove, PySem.F.type_list_remove⟩
  | .clear => ⟨PySem.F.plainAttrs_list, PySem.F.slot_list_clear, PySem.F.type_list_clear⟩
  | .extend => ⟨PySem.F.plainAttrs_list, PySem.F.slot_list_extend, PySem.F.type_list_extend⟩
  | .reverse => ⟨PySem.F.plainAttrs_list, PySem.F.slot_list_reverse, PySem.F.type_list_reverse⟩
section
variable {T : Tb} {X : Cx} {W : WX} {F H F0 H0 F' H' : Hp} {w w0 w' : Wn} {σ : St} {ρ : En} {a b e o : Expr} {es : List Expr} {pos apos : Pos}
theorem tyG_ok {n : String} : TyOk X n (tyG X.K n) := by
  intro pins σ H s x v I r ty
  rcases ty with ty | ⟨rfl, p, ob, vs, rfl, h, hd⟩
  · exact tyV_is I r ty
  · cases r
    obtain ⟨h1, hz, its, rv, ob', h2, h3, h4⟩ := (show ObjOk X.prog X.w H s.heap p (.frz ob (.tup vs)) from I.hok p _ h)
    rw [h1] at h2
    cases h2
    refine ⟨⟨ob, h1, h3⟩, fun a e => ?_⟩
    cases e
    exact ⟨ob, h1, hd⟩
theorem pyIn_some {x : D} {ys : List D} {p : PyData × List PyData} (h : pyIn x ys = some p) : x.py = some p.1 ∧ pys ys = some p.2 ∧ SeqAt.shaped p.1 = true ∧ SeqAt.shaped (.list p.2) = true := by
  unfold pyIn at h
  split at h
  · rename_i a b e1 e2
    split at h
    · rename_i s
      rw [Bool.and_eq_true] at s
      cases h
      exact ⟨e1, e2, s.1, s.2⟩
    · cases h
  · cases h
theorem find_some {x : D} {ys : List D} {j : Nat} (h : idxD x ys = some j) : ∃ p qs z, x.py = some p ∧ pys ys = some qs ∧ SeqAt.shaped p = true ∧ SeqAt.shaped (.list qs) = true ∧ qs[j]? = some z ∧ PyData.eqv z p = true ∧ ∀ (m : Nat) (z' : PyData), m < j → qs[m]? = some z' → PyData.eqv z' p = false := by
  unfold idxD at h
  cases e : pyIn x ys with
  | none => rw [e] at h; cases h
  | some pq =>
    rw [e] at h
    obtain ⟨h1, h2, h3, h4⟩ := pyIn_some e
    have h' : pq.2.findIdx? (fun z => PyData.eqv z pq.1) = some j := h
    rw [List.findIdx?_eq_some_iff_getElem] at h'
    obtain ⟨hj, k1, k2⟩ := h'
    refine ⟨_, _, pq.2[j], h1, h2, h3, h4, List.getElem?_eq_getElem hj, k1, fun m z' hm hz => ?_⟩
    obtain ⟨hm', ez⟩ := List.getElem?_eq_some_iff.mp hz
    have := k2 m hm
    rw [ez] at this
    simpa using this
/-- t.index(x) of a tuple of plain data -/
theorem mt_tup_indexD (hu : X.A.units + 65 < cLine) : MtR X "tuple.index" (fun x xs H Q => ∃ (a : Addr) (y : V) (d : PyData) (ds : List PyData) (j : Nat) (z : PyData), x = V.ref a ∧ xs = [y] ∧ Dp X.K H (V.ref a) (.tuple ds) ∧ Dp X.K H y d ∧
    SeqAt.shaped (.list ds) = true ∧ SeqAt.shaped d = true ∧ ds[j]? = some z ∧ PyData.eqv z d = true ∧ (∀ (m : Nat) (z' : PyData), m < j → ds[m]? = some z' → PyData.eqv z' d = false) ∧ Q (.int (j : Nat)) H) := by
  intro pins s σ H x xs v us Q I rx rxs h
  obtain ⟨a, y, d, ds, j, z, rfl, rfl, hl, hy, sl, sd, hz, hzj, hno, q⟩ := h
  cases rx
  obtain ⟨uy, rfl, ry⟩ := rxs.one
  obtain ⟨bs, r1⟩ := Dp.reads I d y uy hy ry
  have hxs : PyData.canLayAll0 ds = true := SeqAt.canLay_of_shaped sl
  have hroom : X.A.units + 1 + min (PyData.depthAll ds) d.depth < cLine := PyProof.Rows.room_in_shaped sd hu
  cases hl with
  | tup hs ha =>
    obtain ⟨its, rv, ⟨⟨cls, dd, data, sls⟩, ho, hc, n, hdt⟩, hlen⟩ := I.tuple hs
    simp only at hc hdt
    subst hc hdt
    obtain ⟨as, h4⟩ := Dp.readsAll I ds _ its ha rv
    have hn : its.length = ds.length := SeqAt.ReadsAll.length ds its as h4
    have hmap : its.map (SeqAt.readOf s.heap) = ds := SeqAt.readsAll_map ds its as hxs h4
    obtain ⟨hjd, _⟩ := List.getElem?_eq_some_iff.mp hz
    have hjl : j < its.length := by omega
    have hj : j < its.toArray.size := by simpa using hjl
    have at_ : ∀ (m : Nat) (hm : m < its.toArray.size) (z' : PyData), ds[m]? = some z' → SeqAt.readOf s.heap its.toArray[m] = z' := by
      intro m hm z' hz'
      have hml : m < its.length := by simpa using hm
      rw [← hmap, List.getElem?_map, List.getElem?_eq_getElem hml] at hz'
      have e1 : SeqAt.readOf s.heap its[m] = z' := Option.some.inj (show some (SeqAt.readOf s.heap its[m]) = some z' from hz')
      simpa using e1
    refine call_meets PySem.F.slot_tuple_index ⟨_, ho, rfl⟩ PySem.F.entry_tuple_index (PySem.F.args_tuple_index_2 _ _)
      (TI.tuple_indexAt a its.toArray n dd sls uy (fun u => PyData.eqv (SeqAt.readOf s.heap u) d) j hj ?_ ?_) ⟨ho, SeqAt.items_eqAt (vs := its.toArray) (show ReadsAll s.heap its.toArray.toList ds as from h4) r1 hxs (SeqAt.canLay_of_shaped sd) hroom, ?_⟩
    · show PyData.eqv (SeqAt.readOf s.heap its.toArray[j]) d = true
      rw [at_ j hj z hz]
      exact hzj
    · intro m hm hmj
      have hmd : m < ds.length := by omega
      have hz' : ds[m]? = some ds[m] := List.getElem?_eq_getElem hmd
      show PyData.eqv (SeqAt.readOf s.heap its.toArray[m]) d = false
      rw [at_ m hm _ hz']
      exact hno m _ hmj hz'
    · exact ⟨.int (j : Nat), H, I.tok _, ⟨_, rfl⟩, q⟩
theorem mt_tup_countD (hu : X.A.units + 65 < cLine) : MtR X "tuple.count" (fun x xs H Q => ∃ (a : Addr) (y : V) (d : PyData) (ds : List PyData), x = V.ref a ∧ xs = [y] ∧ Dp X.K H (V.ref a) (.tuple ds) ∧ Dp X.K H y d ∧
    SeqAt.shaped (.list ds) = true ∧ SeqAt.shaped d = true ∧ Q (.int (ds.countP (fun z => PyData.eqv z d) : Nat)) H) := by
  intro pins s σ H x xs v us Q I rx rxs h
  obtain ⟨a, y, d, ds, rfl, rfl, hl, hy, sl, sd, q⟩ := h
  cases rx
  obtain ⟨uy, rfl, ry⟩ := rxs.one
  obtain ⟨bs, r1⟩ := Dp.reads I d y uy hy ry
  have hxs : PyData.canLayAll0 ds = true := SeqAt.canLay_of_shaped sl
  have hroom : X.A.units + 1 + min (PyData.depthAll ds) d.depth < cLine := PyProof.Rows.room_in_shaped sd hu
  cases hl with
  | tup hs ha =>
    obtain ⟨its, rv, ⟨⟨cls, dd, data, sls⟩, ho, hc, n, hdt⟩, hlen⟩ := I.tuple hs
    simp only at hc hdt
    subst hc hdt
    obtain ⟨as, h4⟩ := Dp.readsAll I ds _ its ha rv
    have hmap : its.map (SeqAt.readOf s.heap) = ds := SeqAt.readsAll_map ds its as hxs h4
    refine call_meets PySem.F.slot_tuple_count ⟨_, ho, rfl⟩ PySem.F.entry_tuple_count (PySem.F.args_tuple_count_2 _ _)
      (SeqAt.tuple_countAt a its.toArray n dd sls uy (fun u => PyData.eqv (SeqAt.readOf s.heap u) d)) ⟨ho, SeqAt.items_eqAt (vs := its.toArray) (show ReadsAll s.heap its.toArray.toList ds as from h4) r1 hxs (SeqAt.canLay_of_shaped sd) hroom, ?_⟩
    rw [← hmap, List.countP_map] at q
    exact ⟨.int _, H, I.tok _, ⟨_, rfl⟩, q⟩
theorem mt_list_countD (hu : X.A.units + 65 < cLine) : MtR X "list.count" (fun x xs H Q => ∃ (a : Addr) (y : V) (d : PyData) (ds : List PyData), x = V.ref a ∧ xs = [y] ∧ Dp X.K H (V.ref a) (.list ds) ∧ Dp X.K H y d ∧
    SeqAt.shaped (.list ds) = true ∧ SeqAt.shaped d = true ∧ Q (.int (ds.countP (fun z => PyData.eqv z d) : Nat)) H) := by
  intro pins s σ H x xs v us Q I rx rxs h
  obtain ⟨a, y, d, ds, rfl, rfl, hl, hy, sl, sd, q⟩ := h
  cases rx
  obtain ⟨uy, rfl, ry⟩ := rxs.one
  obtain ⟨bs, r1⟩ := Dp.reads I d y uy hy ry
  have hxs : PyData.canLayAll0 ds = true := SeqAt.canLay_of_shaped sl
  have hroom : X.A.units + 1 + min (PyData.depthAll ds) d.depth < cLine := PyProof.Rows.room_in_shaped sd hu
  cases hl with
  | lst hs ha =>
    obtain ⟨its, rv, ⟨⟨cls, dd, data, sls⟩, n, ho, hc, hdn, hdt⟩, hlen⟩ := I.list hs
    simp only at hc hdt
    subst hc hdt
    obtain ⟨as, h4⟩ := Dp.readsAll I ds _ its ha rv
    have hmap : its.map (SeqAt.readOf s.heap) = ds := SeqAt.readsAll_map ds its as hxs h4
    refine call_meets PySem.F.slot_list_count ⟨_, ho, rfl⟩ PySem.F.entry_list_count (PySem.F.args_list_count_2 _ _)
      (SeqAt.list_countAt a its.toArray n dd sls uy (fun u => PyData.eqv (SeqAt.readOf s.heap u) d)) ⟨ho, SeqAt.items_eqAt (vs := its.toArray) (show ReadsAll s.heap its.toArray.toList ds as from h4) r1 hxs (SeqAt.canLay_of_shaped sd) hroom, ?_⟩
    rw [← hmap, List.countP_map] at q
    exact ⟨.int _, H, I.tok _, ⟨_, rfl⟩, q⟩
theorem cnt_some {x : D} {ys : List D} {j : Nat} (h : cntD x ys = some j) : ∃ p qs, x.py = some p ∧ pys ys = some qs ∧ SeqAt.shaped p = true ∧ SeqAt.shaped (.list qs) = true ∧ j = qs.countP fun z => PyData.eqv z p := by
  unfold cntD at h
  cases e : pyIn x ys with
  | none => rw [e] at h; cases h
  | some pq =>
    rw [e] at h
    cases h
    obtain ⟨h1, h2, h3, h4⟩ := pyIn_some e
    exact ⟨_, _, h1, h2, h3, h4, rfl⟩
theorem bmTy_ok (c : Ctx T X) (O : Ok T F H w σ ρ) {bf : BM} {x : FV} {v : V} (cx : Cn T F H x v) (h : bmTy bf x.frz = true) (hk : bf ≠ .indexK) : tyG X.K (bmT bf) v H := by
  generalize ea : x.frz = a at h
  unfold bmTy at h
  split at h
  · rw [cx.str ea]; exact .inl rfl
  · rw [cx.str ea]; exact .inl rfl
  · rw [cx.str ea]; exact .inl rfl
  · rw [cx.str ea]; exact .inl rfl
  · obtain ⟨p, vs, rfl, h1, r⟩ := cx.list O.sub ea
    exact .inl (.inl ⟨rfl, vs, .of h1⟩)
  · exact absurd rfl hk
  · obtain ⟨p, vs, rfl, h1, r⟩ := cx.list O.sub ea
    exact .inl (.inl ⟨rfl, vs, .of h1⟩)
  · obtain ⟨p, vs, ob, rfl, h1, r, hd⟩ := cn_rep O cx ea (fun ds z => nomatch z)
    exact .inr ⟨rfl, p, ob, vs, rfl, O.sub _ _ h1, hd⟩
  · obtain ⟨p, vs, ob, rfl, h1, r, hd⟩ := cn_rep O cx ea (fun ds z => nomatch z)
    exact .inr ⟨rfl, p, ob, vs, rfl, O.sub _ _ h1, hd⟩
  · rw [cx.int ea]; exact .inl rfl
  · cases h
theorem bm_ok (c : Ctx T X) (O : Ok T F H w σ ρ) {bf : BM} {x : FV} {xs : List FV} {v : V} {vs : List V} {z : FV} {Q : VK} (cx : Cn T F H x v) (cs : Cns T F H xs vs) (h : bm bf x.frz (xs.map FV.frz) = some z) (q : Out1 T F H w σ ρ z Q) : mU X (bmI bf) v vs H Q := by
  have one : ∀ {d : D}, xs.map FV.frz = [d] → ∃ x v, vs = [v] ∧ Cn T F H x v ∧ x.frz = d := fun e => by
    obtain ⟨x, rfl, e1⟩ := map1 e
    obtain ⟨v, e2, c1⟩ := cns1 cs
    exact ⟨x, v, e2, c1, e1⟩
  have zero : xs.map FV.frz = [] → vs = [] := fun e => by
    cases xs with
    | nil => exact cs
    | cons _ _ => cases e
  have pl : ∀ {ys : List D} {p : PyData} {qs : List PyData}, x.frz = .lst ys → pys ys = some qs → Dp X.K H v (.list qs) := fun e e2 => by
    rw [c.K]
    refine cx.dp O ?_
    rw [e]
    show (pys _).map PyData.list = _
    rw [e2]
    rfl
  have pt : ∀ {ys : List D} {p : PyData} {qs : List PyData}, x.frz = .tup ys → pys ys = some qs → Dp X.K H v (.tuple qs) := fun e e2 => by
    rw [c.K]
    refine cx.dp O ?_
    rw [e]
    show (pys _).map PyData.tuple = _
    rw [e2]
    rfl
  generalize ea : x.frz = a at h pl pt
  generalize eb : xs.map FV.frz = bs at h one zero
  unfold bm at h
  split at h
  · rename_i aa ys
    split at h
    · rename_i zs e
      split at h <;> cases h
      rename_i hz
      obtain ⟨y, u, rfl, c1, e1⟩ := one rfl
      obtain ⟨p, us, rfl, h1, r⟩ := c1.list O.sub e1
      rw [strsOf_some e] at r
      rw [reps_strs r] at h1
      rw [cx.str ea]
      have hz' : (zs.map (·.length)).sum + zs.length * aa.length ≤ 16000000 := of_decide_eq_true hz
      exact mU_of mt_join ⟨_, p, zs, rfl, rfl, .inl (.of h1), by omega, out_pure O q rfl⟩
    · cases h
  · split at h <;> cases h
    rename_i hz
    rw [Bool.and_eq_true] at hz
    obtain ⟨y, u, rfl, c1, e1⟩ := one rfl
    rw [cx.str ea, c1.str e1]
    refine mU_of mt_split ⟨_, _, rfl, rfl, by simpa using hz.1, sz_le hz.2, ?_⟩
    intro p hp
    exact out_newL O q (reps_of_strs _) p hp
  · split at h <;> cases h
    rename_i hz
    rw [Bool.and_eq_true] at hz
    obtain ⟨y, u, rfl, c1, e1⟩ := one rfl
    rw [cx.str ea, c1.str e1]
    exact mU_of mt_partition ⟨_, _, rfl, rfl, by simpa using hz.1, sz_le hz.2, out_newT O q ⟨_, _, rfl, rfl, _, _, rfl, rfl, _, _, rfl, rfl, rfl⟩⟩
  · split at h <;> cases h
    rename_i hz
    rw [cx.str ea, zero rfl]
    exact mU_of mt_upper ⟨_, rfl, rfl, of_decide_eq_true hz, out_pure O q rfl⟩
  · rename_i ys xx
    cases e : idxD xx ys with
    | none => rw [e] at h; cases h
    | some j =>
      rw [e] at h
      cases h
      obtain ⟨p, qs, z', h1, h2, h3, h4, h5, h6, h7⟩ := find_some e
      obtain ⟨y, u, rfl, c1, e1⟩ := one rfl
      have d2 := c1.dp O (p := p) (by rw [e1]; exact h1)
      rw [← c.K] at d2
      obtain ⟨p', us, rfl, _, _⟩ := cx.list O.sub ea
      exact mU_of (mt_indexD c.un) ⟨p', u, p, qs, j, z', rfl, rfl, pl (p := p) rfl h2, d2, h4, h3, h5, h6, h7, out_pure O q rfl⟩
  · rename_i ys xx
    cases e : idxD xx ys with
    | none => rw [e] at h; cases h
    | some j =>
      rw [e] at h
      cases h
      obtain ⟨p, qs, z', h1, h2, h3, h4, h5, h6, h7⟩ := find_some e
      obtain ⟨y, u, rfl, c1, e1⟩ := one rfl
      have d2 := c1.dp O (p := p) (by rw [e1]; exact h1)
      rw [← c.K] at d2
      obtain ⟨p', us, rfl, _, _⟩ := cx.tup O.sub ea
      exact mU_of (mt_tup_indexD c.un) ⟨p', u, p, qs, j, z', rfl, rfl, pt (p := p) rfl h2, d2, h4, h3, h5, h6, h7, out_pure O q rfl⟩
  · rename_i ys xx
    cases e : cntD xx ys with
    | none => rw [e] at h; cases h
    | some j =>
      rw [e] at h
      cases h
      obtain ⟨p, qs, h1, h2, h3, h4, rfl⟩ := cnt_some e
      obtain ⟨y, u, rfl, c1, e1⟩ := one rfl
      have d2 := c1.dp O (p := p) (by rw [e1]; exact h1)
      rw [← c.K] at d2
      obtain ⟨p', us, ob, rfl, hf, r, _⟩ := cn_rep O cx ea (fun ds z => nomatch z)
      have dt : Dp X.K H (.ref p') (.tuple qs) := by
        rw [c.K]
        exact .tup (.inl (.inr ⟨ob, O.sub _ _ hf⟩)) (reps_dp h2 (Reps.mono O.sub _ _ r))
      exact mU_of (mt_tup_countD c.un) ⟨p', u, p, qs, rfl, rfl, dt, d2, h4, h3, out_pure O q rfl⟩
  · rename_i ys xx
    cases e : idxD xx ys with
    | none => rw [e] at h; cases h
    | some j =>
      rw [e] at h
      cases h
      obtain ⟨p, qs, z', h1, h2, h3, h4, h5, h6, h7⟩ := find_some e
      obtain ⟨y, u, rfl, c1, e1⟩ := one rfl
      have d2 := c1.dp O (p := p) (by rw [e1]; exact h1)
      rw [← c.K] at d2
      obtain ⟨p', us, ob, rfl, hf, r, _⟩ := cn_rep O cx ea (fun ds z => nomatch z)
      have dt : Dp X.K H (.ref p') (.tuple qs) := by
        rw [c.K]
        exact .tup (.inl (.inr ⟨ob, O.sub _ _ hf⟩)) (reps_dp h2 (Reps.mono O.sub _ _ r))
      exact mU_of (mt_tup_indexD c.un) ⟨p', u, p, qs, j, z', rfl, rfl, dt, d2, h4, h3, h5, h6, h7, out_pure O q rfl⟩
  · rename_i ys xx
    cases e : cntD xx ys with
    | none => rw [e] at h; cases h
    | some j =>
      rw [e] at h
      cases h
      obtain ⟨p, qs, h1, h2, h3, h4, rfl⟩ := cnt_some e
      obtain ⟨y, u, rfl, c1, e1⟩ := one rfl
      have d2 := c1.dp O (p := p) (by rw [e1]; exact h1)
      rw [← c.K] at d2
      obtain ⟨p', us, rfl, _, _⟩ := cx.list O.sub ea
      exact mU_of (mt_list_countD c.un) ⟨p', u, p, qs, rfl, rfl, pl (p := p) rfl h2, d2, h4, h3, out_pure O q rfl⟩
  · cases h
    rw [cx.int ea, zero rfl]
    refine mU_of (r := fun x xs H Q => ∃ i, x = .int i ∧ xs = [] ∧ Q (.int (Builtin.Int.intBits i : Nat)) H) ?_ ⟨_, rfl, rfl, out_pure O q rfl⟩
    intro pins s σ H x xs v us Q I rx rs h
    obtain ⟨i, rfl, rfl, q⟩ := h
    obtain ⟨t, rfl⟩ := rx
    cases rs
    exact PyProof.Rows.call_int_bit_length ⟨.int _, H, I.tok _, ⟨_, rfl⟩, q⟩
  · cases h
end
end Dv
end
section
set_option Elab.async false
set_option maxRecDepth 100000
set_option linter.all false
/-! Method calls of built-in types, fields, isinstance, as code -/
namespace Dv
open PySem PySem.Spec L2

def askV (T : Tb) : Ty → V
  | .bt n => .ty n
  | .cls c _ => .ref (T.ca c)
  | .exc c _ => .ref (T.ea c)
theorem askC (T : Tb) : ∀ t : Ty, ClsV (askV T t) (askU T t)
  | .bt n => .ty n
  | .cls c _ => .own _
  | .exc c _ => .own _
/-- what of K is asked about classes -/
structure KCls (T : Tb) (tys : List Ty) : Prop where
  cls : ∀ c, c < T.nc → Cls T.K (T.ca c)
  own : ∀ c, c < T.nc → PySem.W.findIn T.K (.ref (T.ca c)) "__class__" = some (some (.builtin "object.__class__")) ∧ PySem.W.mroIn T.K (T.ca c) (.type "object") = some true
  sp : PySem.W.specialIn T.K (.builtin "object.__class__") "__get__" = some (some (.builtin "getset_descriptor.__get__")) ∧ PySem.W.takesIn T.K (.builtin "object.__class__") = some true
  exc : ∀ c, c < T.ne → ExcC T.K (T.ea c)
  kb : ∀ t ∈ tys, ∀ n ∈ baseNs, PySem.W.kitOne T.K (.type n) (askU T t) = some (baseAns n t)
  ki : ∀ t ∈ tys, ∀ c, c < T.nc → PySem.W.kitOne T.K (.ref (T.ca c)) (askU T t) = some (insAns c t)
  ke : ∀ t ∈ tys, ∀ c, c < T.ne → PySem.W.kitOne T.K (.ref (T.ea c)) (askU T t) = some (excAns c t)
  atr : ∀ c, c < T.nc → ∀ f ∈ T.fl c, NoAttr T.K (T.ca c) f
  nd : ∀ c, c < T.nc → (T.fl c).Nodup ∧ (T.fl c).length < 1000
section
variable {T : Tb} {X : Cx} {W : WX} {F H F0 H0 F' H' : Hp} {w w0 w' : Wn} {σ : St} {ρ : En} {a b e o : Expr} {es : List Expr} {pos apos : Pos} {tys : List Ty}
theorem de_bm (c : Ctx T X) {bf : BM} {ma : M R} {ms : M (List R)} (ho : DE T X W o ma) (hs : DL T (ROks T) X W (e :: es) ms) (hk : bf ≠ .replace) (hk2 : bf ≠ .indexK)
    (hbase : attributeBase o (bmN bf) X.env (eval o X.env) = eval o X.env)
    (hfew : ((PySem.backTo pos (starEach (e :: es) X.env)).all (fun x => !x.1) && (backToKw pos (keywordEach [] X.env)).all (fun x => x.1.isSome)
      && decide ((e :: es).length + ([] : List Keyword).length + (if ([] : List Keyword).isEmpty then 0 else 1) < 30)) = true)
    (hline : (apos.endLine == pos.line) = true) (hst : starEach (e :: es) X.env = (false, eval e X.env) :: starEach es X.env) (hplain : (PySem.backTo pos (starEach es X.env)).any (·.1) = false) :
    DE T X W (.Call (.Attribute o (bmN bf) apos) (e :: es) [] pos) (ma.bnd fun r => (getM r).bnd fun x0 => if bmTy bf x0.frz then ms.bnd fun rs => (getM r).bnd fun x => (getAllM rs).bnd fun xs => (M.opt (bm bf x.frz (xs.map FV.frz))).bnd fun z => M.ret (.val z) else fun _ => .stuck) := fun F H w σ ρ Q O h => by
  have k := bmK bf hk
  refine tw_of (pe_mG tyG_ok k.pa k.slot k.ty mU_ok pe_tw pa_twA hbase hfew hline hst hplain) ?_
  refine ho.run O Sp2.refl h fun r ρ1 F1 H1 w1 v h1 O1 s1 R1 => ?_
  obtain ⟨x0, ex0, h2⟩ := get_holds h1
  split at h2
  · rename_i ht
    refine ⟨bmTy_ok c O1 (R1.cn O1 ex0) ht hk2, ?_⟩
    refine hs.run O1 s1 h2 fun rs ρ2 F2 H2 w2 vs h3 O2 s2 R2 => ?_
    obtain ⟨x, ex, h4⟩ := get_holds h3
    obtain ⟨xs, exs, h5⟩ := optb (o := getAll rs ρ2) h4
    obtain ⟨z, ez, h6⟩ := optb h5
    exact bm_ok c O2 ((R1.step s2).cn O2 ex) (getAll_cns O2 R2 exs) ez (KR.out (s1.trans s2) h6)
  · exact h2.elim
theorem de_bm0 (c : Ctx T X) {bf : BM} {ma : M R} (ho : DE T X W o ma) (hk : bf ≠ .replace) (hk2 : bf ≠ .indexK)
    (hbase : attributeBase o (bmN bf) X.env (eval o X.env) = eval o X.env) (hline : (apos.endLine == pos.line) = true) :
    DE T X W (.Call (.Attribute o (bmN bf) apos) [] [] pos) (ma.bnd fun r => (getM r).bnd fun x0 => if bmTy bf x0.frz then (M.ret []).bnd fun rs => (getM r).bnd fun x => (getAllM rs).bnd fun xs => (M.opt (bm bf x.frz (xs.map FV.frz))).bnd fun z => M.ret (.val z) else fun _ => .stuck) := fun F H w σ ρ Q O h => by
  have k := bmK bf hk
  refine tw_of (pe_mG0 tyG_ok k.pa k.slot k.ty mU_ok pe_tw hbase hline) ?_
  refine ho.run O Sp2.refl h fun r ρ1 F1 H1 w1 v h1 O1 s1 R1 => ?_
  obtain ⟨x0, ex0, h2⟩ := get_holds h1
  split at h2
  · rename_i ht
    refine ⟨bmTy_ok c O1 (R1.cn O1 ex0) ht hk2, ?_⟩
    have h2' : (((getM r).bnd fun x => (getAllM []).bnd fun xs => (M.opt (bm bf x.frz (xs.map FV.frz))).bnd fun z => M.ret (.val z)) ρ1).holds (KR T F H w σ Q) (KX T W F H w σ) := h2
    obtain ⟨x, ex, h4⟩ := get_holds h2'
    obtain ⟨xs, exs, h5⟩ := optb (o := getAll [] ρ1) h4
    obtain ⟨z, ez, h6⟩ := optb h5
    exact bm_ok c O1 (R1.cn O1 ex) (getAll_cns O1 (show ROks T H F1 H1 w1 σ [] [] from rfl) exs) ez (KR.out s1 h6)
  · exact h2.elim
/-- the receiver is a known tuple of the module -/
theorem de_indexK (c : Ctx T X) {p : Addr} {d : D} {ob : Obj} {ms : M (List R)} (ho : PE X o (tC (.ref p))) (hr : ∀ F, Rep T F d (.ref p)) (hk : X.K.lookup p = some ob) (hkc : ob.cls = .type "tuple") (hkd : ob.dict = none) (hs : DL T (ROks T) X W (e :: es) ms)
    (hbase : attributeBase o (bmN .indexK) X.env (eval o X.env) = eval o X.env)
    (hfew : ((PySem.backTo pos (starEach (e :: es) X.env)).all (fun x => !x.1) && (backToKw pos (keywordEach [] X.env)).all (fun x => x.1.isSome)
      && decide ((e :: es).length + ([] : List Keyword).length + (if ([] : List Keyword).isEmpty then 0 else 1) < 30)) = true)
    (hline : (apos.endLine == pos.line) = true) (hst : starEach (e :: es) X.env = (false, eval e X.env) :: starEach es X.env) (hplain : (PySem.backTo pos (starEach es X.env)).any (·.1) = false) :
    DE T X W (.Call (.Attribute o (bmN .indexK) apos) (e :: es) [] pos) ((M.ret (.val (.dat d))).bnd fun r => (getM r).bnd fun x0 => if bmTy .indexK x0.frz then ms.bnd fun rs => (getM r).bnd fun x => (getAllM rs).bnd fun xs => (M.opt (bm .indexK x.frz (xs.map FV.frz))).bnd fun z => M.ret (.val z) else fun _ => .stuck) := fun F H w σ ρ Q O h => by
  have k := bmK .indexK (fun z => nomatch z)
  refine tw_of (pe_mG tyG_ok k.pa k.slot k.ty mU_ok ho pa_twA hbase hfew hline hst hplain) ?_
  have h1 : (((if bmTy .indexK d then ms.bnd fun rs => (getM (.val (.dat d))).bnd fun x => (getAllM rs).bnd fun xs => (M.opt (bm .indexK x.frz (xs.map FV.frz))).bnd fun z => M.ret (.val z) else fun _ => .stuck) : M R) ρ).holds (KR T F H w σ Q) (KX T W F H w σ) := h
  split at h1
  · refine ⟨.inl (.inr (.inl ⟨rfl, ob, hk, hkc, hkd⟩)), ?_⟩
    refine hs.run O Sp2.refl h1 fun rs ρ2 F2 H2 w2 vs h3 O2 s2 R2 => ?_
    obtain ⟨x, ex, h4⟩ := get_holds h3
    obtain ⟨xs, exs, h5⟩ := optb (o := getAll rs ρ2) h4
    obtain ⟨z, ez, h6⟩ := optb h5
    cases (show some (FV.dat d) = some x from ex)
    exact bm_ok c O2 (x := .dat d) (hr F2) (getAll_cns O2 R2 exs) ez (KR.out s2 h6)
  · exact h1.elim
/-! ### methods that change a list -/
theorem mm_core {m : MM} {ds xs es : List D} {d : D} {a : Addr} {vs : List V} {us : List V} {Q : VK} (hH : H a = some (.lst vs)) (rv : Reps T F ds vs) (h : mmF m ds xs = some (d, es)) (r : Reps T F xs us)
    (fin : ∀ {vs' : List V} {y : V}, Reps T F es vs' → Rep T F d y → Q y (upd H a (.lst vs'))) (hm : m ≠ .extend) : mU X (mmI m) (.ref a) us H Q := by
  have hl := rv.len
  unfold mmF at h
  split at h
  · rename_i x
    split at h <;> cases h
    rename_i hz
    obtain ⟨y, us', rfl, r1, rfl⟩ := r
    have := sz_le hz
    exact mU_of mt_append ⟨a, vs, y, rfl, rfl, hH, by omega, fin (rv.append ⟨y, [], rfl, r1, rfl⟩) rfl⟩
  · cases r
    split at h
    · rename_i y hy
      cases h
      rw [← hl] at hy
      obtain ⟨j, hj, rj⟩ := rv.get hy
      refine mU_of mt_pop ⟨a, vs, j, rfl, rfl, hH, hj, fin ?_ rj⟩
      have := rv.take (ds.length - 1)
      rw [← List.dropLast_eq_take] at this
      rw [← hl, ← List.dropLast_eq_take] at this
      exact this
    · cases h
  · rename_i k
    split at h
    · rename_i hk
      have hk' : 0 ≤ k ∧ k < 2 ^ 63 := by
        simp only [Bool.and_eq_true, decide_eq_true_eq] at hk
        omega
      split at h
      · rename_i y hy
        cases h
        obtain ⟨u', us', rfl, r1, rfl⟩ := r
        rw [show u' = .int k from r1]
        obtain ⟨j, hj, rj⟩ := rv.get hy
        have hlt2 : k.toNat < ds.length := (List.getElem?_eq_some_iff.mp hy).1
        refine mU_of mt_popAt ⟨a, vs, k, k.toNat, j, rfl, rfl, hH, by omega, hk'.2, by rw [hl]; exact PySem.seqIndex_of hk'.1 (by omega), hj, fin ?_ rj⟩
        rw [List.eraseIdx_eq_take_drop_succ, List.eraseIdx_eq_take_drop_succ]
        exact (rv.take _).append (rv.drop _)
      · cases h
    · cases h
  · cases h
    cases r
    exact mU_of mt_clear ⟨a, vs, rfl, rfl, hH, fin (vs' := []) rfl rfl⟩
  · cases h
    cases r
    exact mU_of mt_reverse ⟨a, vs, rfl, rfl, hH, fin rv.reverse rfl⟩
  · rename_i k
    split at h
    · rename_i ns e2
      cases e3 : ns.findIdx? (fun n => n == k) with
      | none => rw [e3] at h; cases h
      | some j =>
        rw [e3] at h
        cases h
        obtain ⟨u', us', rfl, r1, rfl⟩ := r
        rw [show u' = .int k from r1]
        rw [List.findIdx?_eq_some_iff_getElem] at e3
        obtain ⟨hj, k1, k2⟩ := e3
        have ed := intsOf_some e2
        subst ed
        have ev := reps_ints rv
        subst ev
        have hj' : ns[j]? = some k := by rw [List.getElem?_eq_getElem hj]; exact congrArg some (eq_of_beq k1)
        refine mU_of mt_remove ⟨a, ns, k, j, rfl, rfl, hH, hj', fun m hm2 z => ?_, fin ?_ rfl⟩
        · have := k2 m hm2
          rw [List.getElem?_eq_getElem (by omega)] at z
          cases z
          simp at this
        · rw [← erase_mapI, List.eraseIdx_eq_take_drop_succ, List.eraseIdx_eq_take_drop_succ]
          exact (rv.take _).append (rv.drop _)
    · cases h
  · exact absurd rfl hm
  · cases h
theorem mm_ok (c : Ctx T X) (O : Ok T F H w σ ρ) (s : Sp2 F0 H0 w0 F H w) {m : MM} {i : Nat} {ds xs es : List D} {d : D} {v : V} {us : List V} {Q : VK} (hi : σ[i]? = some (some v)) (e : ρ[i]? = some (some (.lst ds))) (h : mmF m ds xs = some (d, es)) (r : Reps T F xs us)
    (q : KR T F0 H0 w0 σ Q (.val (.dat d)) (ρ.set i (some (.lst es)))) (hm : m ≠ .extend) : mU X (mmI m) v us H Q := by
  obtain ⟨u, q1, a, vs, rfl, ha, hH, rv⟩ := O.sl i _ e
  rw [hi] at q1
  cases q1
  have hlt : i < ρ.length := (List.getElem?_eq_some_iff.mp e).1
  have fin : ∀ {vs' : List V} {y : V}, Reps T F es vs' → Rep T F d y → Q y (upd H a (.lst vs')) := fun {vs' y} r1 r2 => by
    obtain ⟨O', s'⟩ := mut_ok (o := .lst vs') (x := .lst es) O s ha hlt (.ref a) hi ⟨a, _, rfl, ha, upd_same, r1⟩
    exact q _ _ _ _ O' s' r2
  exact mm_core hH rv h r fin hm
theorem mutT_ok {a : Addr} {o : HO} (O : Ok T F H w σ ρ) (s : Sp2 F0 H0 w0 F H w) (h0 : H0 a = none) (hw : w a = none) (hf : F a = none) (hh : H a ≠ none) : Ok T F (upd H a o) w σ ρ ∧ Sp2 F0 H0 w0 F (upd H a o) w := by
  refine ⟨⟨fun b u e => ?_, fun b j e => ?_, O.len, fun j y e => ?_⟩, ⟨s.ext, fun b u e e2 => ?_, fun b e => ?_, s.nofr, s.ownd⟩⟩
  · rw [upd_ne (fun z => by rw [z, hf] at e; cases e)]
    exact O.sub b u e
  · rw [upd_ne (fun z => by rw [z, hw] at e; cases e)]
    exact O.own b j e
  · obtain ⟨v, e1, e2⟩ := O.sl j y e
    exact ⟨v, e1, e2.mono (fun _ _ z => z) fun b eb => ⟨eb, fun u eu => by rw [upd_ne (fun z => by rw [z, hw] at eb; cases eb)]; exact eu⟩⟩
  · rw [upd_ne (fun z => by rw [z, h0] at e; cases e)]
    exact s.same b u e e2
  · by_cases hb : b = a
    · subst hb
      exact absurd h0 e
    · rw [upd_ne hb]
      exact s.keep b e
/-- a list's changing method at a new list of nobody's -/
theorem mm_tmp {m : MM} {ds xs es : List D} {d : D} {v : V} {us : List V} {Q : VK} (O : Ok T F H w σ ρ) (s : Sp2 F0 H0 w0 F H w) (hv : TvOk T H0 F H w (.lst ds) v) (h : mmF m ds xs = some (d, es)) (r : Reps T F xs us)
    (q : KR T F0 H0 w0 σ Q (.val (.dat d)) ρ) (hm : m ≠ .extend) : mU X (mmI m) v us H Q := by
  obtain ⟨a, vs, rfl, h0, h1, h2, h3, h4⟩ := hv
  refine mm_core h3 h4 h r (fun {vs' y} r1 r2 => ?_) hm
  obtain ⟨O', s'⟩ := mutT_ok (o := .lst vs') O s h0 h1 h2 (some_ne h3)
  exact q _ _ _ _ O' s' r2
theorem de_mm (c : Ctx T X) {m : MM} {ma : M R} {ms : M (List D)} (ho : DE T X W o ma) (hs : DL T (RepA T) X W (e :: es) ms) (hm : m ≠ .extend)
    (hbase : attributeBase o (mmN m) X.env (eval o X.env) = eval o X.env)
    (hfew : ((PySem.backTo pos (starEach (e :: es) X.env)).all (fun x => !x.1) && (backToKw pos (keywordEach [] X.env)).all (fun x => x.1.isSome)
      && decide ((e :: es).length + ([] : List Keyword).length + (if ([] : List Keyword).isEmpty then 0 else 1) < 30)) = true)
    (hline : (apos.endLine == pos.line) = true) (hst : starEach (e :: es) X.env = (false, eval e X.env) :: starEach es X.env) (hplain : (PySem.backTo pos (starEach es X.env)).any (·.1) = false) :
    DE T X W (.Call (.Attribute o (mmN m) apos) (e :: es) [] pos) (ma.bnd fun r => (getM r).bnd fun x0 => if isLst x0 then ms.bnd fun xs => mmR m r xs else fun _ => .stuck) := fun F H w σ ρ Q O h => by
  have k := mmK m
  refine tw_of (pe_mG tyG_ok k.pa k.slot k.ty mU_ok pe_tw pa_twA hbase hfew hline hst hplain) ?_
  refine ho.run O Sp2.refl h fun r ρ1 F1 H1 w1 v h1 O1 s1 R1 => ?_
  obtain ⟨x0, ex0, h2⟩ := get_holds h1
  split at h2
  · rename_i ht
    have cx := R1.cn O1 ex0
    have ty : tyG X.K "list" v H1 := by
      cases x0 with
      | dat d => cases ht
      | lst ds =>
        obtain ⟨p, vs, rfl, h3, h4, _⟩ := cx
        exact .inl (.inl ⟨rfl, vs, .of h4⟩)
    refine ⟨ty, ?_⟩
    refine hs.run O1 s1 h2 fun xs ρ2 F2 H2 w2 vs h3 O2 s2 R2 => ?_
    unfold mmR at h3
    split at h3
    · rename_i ds
      split at h3
      · rename_i p e2
        exact mm_tmp O2 (s1.trans s2) (TvOk.step s2 (show TvOk T H F1 H1 w1 (.lst ds) v from R1)) (d := p.1) (es := p.2) e2 R2 h3 hm
      · exact h3.elim
    · exact h3.elim
    · split at h3
      · rename_i ds e1
        split at h3
        · rename_i p e2
          exact mm_ok c O2 (s1.trans s2) R1 e1 (d := p.1) (es := p.2) e2 R2 h3 hm
        · exact h3.elim
      · exact h3.elim
  · exact h2.elim
theorem de_mm0 (c : Ctx T X) {m : MM} {ma : M R} (ho : DE T X W o ma) (hm : m ≠ .extend)
    (hbase : attributeBase o (mmN m) X.env (eval o X.env) = eval o X.env) (hline : (apos.endLine == pos.line) = true) :
    DE T X W (.Call (.Attribute o (mmN m) apos) [] [] pos) (ma.bnd fun r => (getM r).bnd fun x0 => if isLst x0 then (M.ret []).bnd fun xs => mmR m r xs else fun _ => .stuck) := fun F H w σ ρ Q O h => by
  have k := mmK m
  refine tw_of (pe_mG0 tyG_ok k.pa k.slot k.ty mU_ok pe_tw hbase hline) ?_
  refine ho.run O Sp2.refl h fun r ρ1 F1 H1 w1 v h1 O1 s1 R1 => ?_
  obtain ⟨x0, ex0, h2⟩ := get_holds h1
  split at h2
  · rename_i ht
    have cx := R1.cn O1 ex0
    have ty : tyG X.K "list" v H1 := by
      cases x0 with
      | dat d => cases ht
      | lst ds =>
        obtain ⟨p, vs, rfl, h3, h4, _⟩ := cx
        exact .inl (.inl ⟨rfl, vs, .of h4⟩)
    refine ⟨ty, ?_⟩
    have h3 : ((mmR m r []) ρ1).holds (KR T F H w σ Q) (KX T W F H w σ) := h2
    unfold mmR at h3
    split at h3
    · rename_i ds
      split at h3
      · rename_i p e2
        exact mm_tmp O1 s1 (show TvOk T H F1 H1 w1 (.lst ds) v from R1) (d := p.1) (es := p.2) e2 (show Reps T F1 [] [] from rfl) h3 hm
      · exact h3.elim
    · exact h3.elim
    · split at h3
      · rename_i ds e1
        split at h3
        · rename_i p e2
          exact mm_ok c O1 s1 R1 e1 (d := p.1) (es := p.2) e2 rfl h3 hm
        · exact h3.elim
      · exact h3.elim
  · exact h2.elim
end
end Dv
end
section
set_option Elab.async false
set_option maxRecDepth 100000
set_option linter.all false
/-! Fields, isinstance, calls -/
namespace Dv
open PySem PySem.Spec L2
section
variable {T : Tb} {X : Cx} {W : WX} {F H F0 H0 F' H' : Hp} {w w0 w' : Wn} {σ : St} {ρ : En} {a b e o : Expr} {es : List Expr} {pos apos : Pos} {tys : List Ty}
theorem lookup_zip : ∀ {ns : List Str} {vs : List V} {k : Nat} {f : Str} {v : V}, ns.Nodup → ns[k]? = some f → vs[k]? = some v → (ns.zip vs).lookup f = some v
  | [], _, _, _, _, _, h, _ => by simp at h
  | _ :: _, [], _, _, _, _, _, h => by simp at h
  | n :: ns, u :: vs, 0, f, v, nd, h1, h2 => by
    simp at h1 h2
    subst h1 h2
    rw [List.zip_cons_cons, List.lookup_cons]
    simp
  | n :: ns, u :: vs, k + 1, f, v, nd, h1, h2 => by
    have h1' : ns[k]? = some f := by simpa using h1
    rw [List.zip_cons_cons, List.lookup_cons]
    have : f ≠ n := by
      rintro rfl
      exact (List.nodup_cons.mp nd).1 (List.mem_of_getElem? h1')
    have e : (f == n) = false := beq_eq_false_iff_ne.mpr this
    rw [e]
    exact lookup_zip (List.nodup_cons.mp nd).2 h1' (by simpa using h2)
theorem de_fld (c : Ctx T X) (kc : KCls T tys) {f : Str} {tb : List (Nat × Nat)} {ma : M R} (ha : DE T X W a ma) (hb : attributeBase a f X.env (eval a X.env) = eval a X.env) (ht : ∀ c k, tb.lookup c = some k → (T.fl c)[k]? = some f) :
    DE T X W (.Attribute a f pos) (ma.bnd fun r => (getM r).bnd fun x => match x with
    | .dat (.ins c ds) => (M.opt ((tb.lookup c).bind fun k => ds[k]?)).bnd fun z => M.ret (.val (.dat z))
    | _ => fun _ => .stuck) := fun F H w σ ρ Q O h => by
  refine tw_of (pe_fld pe_tw hb) ?_
  refine ha.run O Sp2.refl h fun r ρ1 F1 H1 w1 v h1 O1 s1 R1 => ?_
  obtain ⟨x, ex, h2⟩ := get_holds h1
  have cx := R1.cn O1 ex
  split at h2
  · rename_i cc ds
    obtain ⟨z, ez, h3⟩ := optb h2
    obtain ⟨p, dx, vs, rfl, h4, r4, hl, hc⟩ := cx
    cases ek : tb.lookup cc with
    | none => rw [ek] at ez; cases ez
    | some k =>
      rw [ek] at ez
      obtain ⟨u, hu, ru⟩ := r4.get ez
      refine ⟨p, T.ca cc, dx, _, u, rfl, O1.sub _ _ h4, by rw [c.K]; exact kc.cls cc hc, by rw [c.K]; exact kc.atr cc hc f (List.mem_of_getElem? (ht _ _ ek)), lookup_zip (kc.nd cc hc).1 (ht _ _ ek) hu, ?_⟩
      exact KR.pure O1 s1 h3 ru
  · exact h2.elim
/-! ### isinstance -/
theorem call_isX {D : Addr} (C : ExcC X.K D) : CallR X (.builtin "isinstance") (fun xs H Q => ∃ (a : Addr) (c : V) (u : Value) (b : Bool), xs = [.ref a, c] ∧ ClsV c u ∧ H a = some (exH (.ref D) none a) ∧ PySem.W.kitOne X.K (.ref D) u = some b ∧ Q (.bl b) H) := by
  intro pins s σ H xs us Q I r h
  obtain ⟨a, c, u, b, rfl, k, ha, e, q⟩ := h
  obtain ⟨u1, u2, rfl, r1, r2⟩ := vals2 r
  have e2 := k.eq r2
  subst e2
  cases r1
  obtain ⟨⟨oe, vs, hget, hz, hv⟩, _⟩ := (show ObjOk X.prog X.w H s.heap a (exH (.ref D) none a) from I.hok a _ ha)
  have J : PySem.W.InstAt s.heap a oe D none := by
    obtain ⟨oc, od, oda, osl⟩ := oe
    obtain ⟨h1, h2⟩ := hz
    dsimp only at h1 h2 hv
    subst h1 h2 hv
    exact ⟨hget, rfl, rfl, trivial⟩
  exact PySem.W.kia_one (PySem.W.handS_kitx_exc C.hg C.hk C.hs C.hd C.ha C.hn C.ht C.hm) I.kIn J e (fun z => nomatch z) fun tk => ⟨.bl b, H, I.kept (t' := tk) fun _ _ z => z, rfl, q⟩
theorem isi_ok (c : Ctx T X) (kc : KCls T tys) (O : Ok T F H w σ ρ) {x : FV} {v : V} {t : Ty} {b : Bool} {Q : VK} (ht : t ∈ tys) (cx : Cn T F H x v) (h : isiD x.frz t = some b) (q : Q (.bl b) H) : cU X (.builtin "isinstance") [v, askV T t] H Q := by
  have kb : ∀ n ∈ baseNs, PySem.W.kitOne X.K (.type n) (askU T t) = some (baseAns n t) := by rw [c.K]; exact kc.kb t ht
  have go : ∀ {n : String}, n ∈ baseNs → TyX X.K H v (.type n) → baseAns n t = b → cU X (.builtin "isinstance") [v, askV T t] H Q := fun hn ty e =>
    cU_of call_isi ⟨v, askV T t, _, _, b, rfl, askC T t, ty, by rw [kb _ hn, e], q⟩
  generalize ea : x.frz = d at h
  unfold isiD at h
  split at h
  · rename_i cc ds
    cases h
    obtain ⟨p, dx, vs, rfl, h4, r4, hl, hc⟩ := cn_rep O cx ea (fun ds z => nomatch z)
    refine cU_of call_isi ⟨_, askV T t, .ref (T.ca cc), _, _, rfl, askC T t, ?_, by rw [c.K]; exact kc.ki t ht cc hc, q⟩
    rw [c.K]
    exact .base (.ins (O.sub _ _ h4) (kc.cls cc hc) (kc.own cc hc).1 kc.sp.1 kc.sp.2 (kc.own cc hc).2)
  · rename_i cc
    cases h
    obtain ⟨p, dd, vs, rfl, h4, r4, hr, hc⟩ := cn_rep O cx ea (fun ds z => nomatch z)
    have hd : dd = none := by
      rcases r4 with r4 | r4
      · exact r4.2
      · exact absurd rfl r4.1
    subst hd
    refine cU_of (call_isX (D := T.ea cc) (by rw [c.K]; exact kc.exc cc hc)) ⟨p, askV T t, _, _, rfl, askC T t, O.sub _ _ h4, by rw [c.K]; exact kc.ke t ht cc hc, q⟩
  · cases h
  · cases d with
    | non =>
      cases h
      rw [cx.non ea] at go ⊢
      exact go (n := "NoneType") (by decide) (.base .non) rfl
    | bl k =>
      cases h
      rw [cx.bl ea] at go ⊢
      exact go (n := "bool") (by decide) (.base (.bl k)) rfl
    | int k =>
      cases h
      rw [cx.int ea] at go ⊢
      exact go (n := "int") (by decide) (.base (.int k)) rfl
    | str k =>
      cases h
      rw [cx.str ea] at go ⊢
      exact go (n := "str") (by decide) (.base (.str k)) rfl
    | tup ds =>
      cases h
      obtain ⟨p, vs, rfl, h1, r⟩ := cx.tup O.sub ea
      rw [← c.K] at h1
      refine go (n := "tuple") (by decide) ?_ rfl
      rcases O.sub.t h1 with (h1 | ⟨o, h1⟩) | ⟨o, its, n, hk, hc, _⟩
      · exact .base (.tup h1)
      · exact .fTuple h1
      · exact .kTuple hk hc
    | lst ds =>
      cases h
      obtain ⟨p, vs, rfl, h1, r⟩ := cx.list O.sub ea
      exact go (n := "list") (by decide) (.base (.lst h1)) rfl
    | scr ds =>
      cases h
      obtain ⟨p, vs, rfl, h1, r⟩ := cn_rep O cx ea (fun ds z => nomatch z)
      rw [← c.K] at h1
      refine go (n := "list") (by decide) ?_ rfl
      rcases O.sub.l h1 with (h1 | ⟨o, h1⟩) | ⟨o, its, n, hk, hc, _⟩
      · exact .base (.lst h1)
      · exact .base (.frz h1)
      · exact .kList hk hc
    | tpk ds =>
      cases h
      obtain ⟨p, vs, ob, rfl, h1, r, _⟩ := cn_rep O cx ea (fun ds z => nomatch z)
      exact go (n := "tuple") (by decide) (.fTuple (O.sub _ _ h1)) rfl
    | ins cc ds => cases h
    | exc cc ds => cases h
    | dct ks ds =>
      cases h
      obtain ⟨p, vs, rfl, h1, r, _⟩ := cn_rep O cx ea (fun ds z => nomatch z)
      exact go (n := "dict") (by decide) (.base (.dK (O.sub _ _ h1))) rfl
theorem de_isi (c : Ctx T X) (kc : KCls T tys) {t : Ty} {x : Str} {p : Pos} {eT : Expr} {ma : M R} (ha : DE T X W a ma) (ht : t ∈ tys) (hT : PE X eT (tC (askV T t))) (hx : x = "isinstance") (hg : Gl X x) (hm : X.mg x = none)
    (h1 : starEach (a :: [eT]) X.env = (false, eval a X.env) :: starEach [eT] X.env) (h2 : starEach (eT :: []) X.env = (false, eval eT X.env) :: starEach [] X.env) :
    DE T X W (.Call (.Name x p) [a, eT] [] pos) (ma.bnd fun r => (getM r).bnd fun x => (M.opt (isiD x.frz t)).bnd fun z => M.ret (.val (.dat (.bl z)))) := fun F H w σ ρ Q O h => by
  subst hx
  refine tw_of (pe_callB (r := cU X (.builtin "isinstance")) cU_ok hg hm (by decide +kernel) (pa_cons pe_tw (pa_cons hT pa_nil h2) h1) (by decide) (by decide) h1 (by rw [h2]; rfl)) ?_
  refine ha.run O Sp2.refl h fun r ρ1 F1 H1 w1 v h1 O1 s1 R1 => ?_
  obtain ⟨y, ey, h3⟩ := get_holds h1
  obtain ⟨z, ez, h5⟩ := optb h3
  exact isi_ok c kc O1 ht (R1.cn O1 ey) ez (KR.pure (v := .bl z) O1 s1 h5 rfl)
end
end Dv
end
section
set_option Elab.async false
set_option maxRecDepth 100000
set_option linter.all false
/-! Calls of defs -/
namespace Dv
open PySem PySem.Spec L2

/-- a def's promise, by what it comes to -/
def spOf (T : Tb) (φ : Fn) : Sp := fun vs H Q E => ∃ (F : Hp) (w : Wn) (xs : List SV), Ok T F H w (vs.map some) (xs.map some) ∧ (∀ a i, w a = some i → i < vs.length) ∧
  match φ xs with
  | .ok x ys => ∀ F' H' w' v, Ok T F' H' w' (vs.map some) (ys.map some) → Sp2 F H w F' H' w' → TvOk T H F' H' w' x v → Q v H'
  | .exc e ys => ∀ F' H' w', Ok T F' H' w' (vs.map some) (ys.map some) → Sp2 F H w F' H' w' → ∀ cls d, ExOk T F' e cls d → E cls d H'
  | .stuck => False

/-- whose an address is, from the called def's side -/
def claims (w : Wn) : Ar → V → Addr → Prop
  | .own i, _, a => w a = some i
  | .tmp _, v, a => v = .ref a
  | .inst _, v, a => v = .ref a
  | .dat _, _, _ => False
open Classical in
noncomputable def wA (w : Wn) : Nat → List Ar → List V → Wn
  | j, x :: as, v :: vs => fun a => if claims w x v a then some j else wA w (j + 1) as vs a
  | _, _, _ => fun _ => none
theorem wA_some {w : Wn} {a : Addr} : ∀ {as : List Ar} {vs : List V} {j m : Nat}, wA w j as vs a = some m → ∃ k x v, m = j + k ∧ as[k]? = some x ∧ vs[k]? = some v ∧ claims w x v a
  | [], _, j, m, h => by simp [wA] at h
  | _ :: _, [], j, m, h => by simp [wA] at h
  | x :: as, v :: vs, j, m, h => by
    unfold wA at h
    split at h
    · rename_i c
      cases h
      exact ⟨0, x, v, rfl, rfl, rfl, c⟩
    · obtain ⟨k, x', v', rfl, e1, e2, c⟩ := wA_some h
      exact ⟨k + 1, x', v', by omega, by simpa using e1, by simpa using e2, c⟩
theorem wA_none {w : Wn} {a : Addr} : ∀ {as : List Ar} {vs : List V} {j : Nat}, (∀ (k : Nat) x v, as[k]? = some x → vs[k]? = some v → ¬ claims w x v a) → wA w j as vs a = none
  | [], _, j, h => by simp [wA]
  | _ :: _, [], j, h => by simp [wA]
  | x :: as, v :: vs, j, h => by
    unfold wA
    rw [if_neg (h 0 x v rfl rfl)]
    exact wA_none fun k x' v' e1 e2 => h (k + 1) x' v' (by simpa using e1) (by simpa using e2)
theorem wA_at {w : Wn} {a : Addr} {as : List Ar} {vs : List V} {j k : Nat} {x : Ar} {v : V} (e1 : as[k]? = some x) (e2 : vs[k]? = some v) (c : claims w x v a)
    (u : ∀ (k' : Nat) x' v', as[k']? = some x' → vs[k']? = some v' → claims w x' v' a → k' = k) : wA w j as vs a = some (j + k) := by
  cases h : wA w j as vs a with
  | none =>
    exfalso
    clear u
    induction as generalizing vs j k with
    | nil => simp at e1
    | cons y as ih =>
      cases vs with
      | nil => simp at e2
      | cons u vs =>
        unfold wA at h
        split at h
        · cases h
        · rename_i nc
          cases k with
          | zero =>
            simp at e1 e2
            subst e1 e2
            exact nc c
          | succ k => exact ih (k := k) (by simpa using e1) (by simpa using e2) h
  | some m =>
    obtain ⟨k', x', v', rfl, f1, f2, c'⟩ := wA_some h
    rw [u k' x' v' f1 f2 c']
section
variable {T : Tb} {X : Cx} {W : WX} {F H F0 H0 F' H' : Hp} {w w0 w' : Wn} {σ : St} {ρ : En} {a b e o : Expr} {es : List Expr} {pos apos : Pos} {as : List Ar} {vs : List V} {xs ys : List SV}
theorem aoks_len : ∀ {as : List Ar} {vs : List V} {H0 : Hp}, AOks T F H w σ H0 as vs → vs.length = as.length
  | [], vs, _, h => by rw [show vs = [] from h]; rfl
  | a :: as, vs, _, h => by
    obtain ⟨v, us, H1, rfl, _, _, _, h4⟩ := h
    rw [List.length_cons, List.length_cons, aoks_len h4]
theorem aoks_get : ∀ {as : List Ar} {vs : List V} {H0 : Hp} {k : Nat} {x : Ar}, AOks T F H w σ H0 as vs → as[k]? = some x → ∃ v, vs[k]? = some v ∧ AOk T H0 F H w σ x v
  | [], vs, _, k, x, h, e => by simp at e
  | a :: as, vs, _, 0, x, h, e => by
    obtain ⟨v, us, H1, rfl, h1, _, _, h4⟩ := h
    simp at e
    subst e
    exact ⟨v, rfl, h1⟩
  | a :: as, vs, _, k + 1, x, h, e => by
    obtain ⟨v, us, H1, rfl, h1, h2, _, h4⟩ := h
    obtain ⟨u, e1, e2⟩ := aoks_get h4 (show as[k]? = some x by simpa using e)
    exact ⟨u, by simpa using e1, e2.old h2⟩
/-- where a new argument stands -/
theorem aok_new {x : Ar} {v : V} {H1 : Hp} (h : AOk T H1 F H w σ x v) (e : x.isNew = true) : ∃ p, v = .ref p ∧ H1 p = none ∧ w p = none ∧ F p = none ∧ H p ≠ none := by
  cases x with
  | tmp ds =>
    obtain ⟨p, vs', e3, h0, h1, h2, q, _⟩ := h
    exact ⟨p, e3, h0, h1, h2, some_ne q⟩
  | inst c =>
    obtain ⟨p, dx, e3, h0, h1, h2, q, _⟩ := h
    exact ⟨p, e3, h0, h1, h2, some_ne q⟩
  | dat d => cases e
  | own i => cases e
theorem aoks_new : ∀ {as : List Ar} {vs : List V} {H0 : Hp} {k k' : Nat} {x x' : Ar} {p : Addr}, AOks T F H w σ H0 as vs → k < k' → as[k]? = some x → as[k']? = some x' → vs[k]? = some (.ref p) → vs[k']? = some (.ref p) → x.isNew = true → x'.isNew = true → False
  | [], vs, _, k, k', x, x', p, h, hk, e1, e2, e3, e4, n1, n2 => by simp at e1
  | a :: as, vs, _, 0, k' + 1, x, x', p, h, hk, e1, e2, e3, e4, n1, n2 => by
    obtain ⟨v, us, H1, rfl, h1, h2, h3, h4⟩ := h
    simp at e1 e3
    subst e1 e3
    obtain ⟨u, f1, f2⟩ := aoks_get h4 (show as[k']? = some x' by simpa using e2)
    have e4' : us[k']? = some (.ref p) := by simpa using e4
    rw [e4'] at f1
    cases f1
    obtain ⟨p', e5, h5, _⟩ := aok_new f2 n2
    cases e5
    exact h3 p n1 rfl h5
  | a :: as, vs, _, k + 1, k' + 1, x, x', p, h, hk, e1, e2, e3, e4, n1, n2 => by
    obtain ⟨v, us, H1, rfl, h1, h2, h3, h4⟩ := h
    exact aoks_new h4 (by omega : k < k') (by simpa using e1) (by simpa using e2) (by simpa using e3) (by simpa using e4) n1 n2
theorem mem_owns : ∀ {as : List Ar} {i : Nat}, i ∈ ownsOf as ↔ ∃ k : Nat, as[k]? = some (Ar.own i)
  | [], i => by simp [ownsOf]
  | .own j :: as, i => by
    simp only [ownsOf, List.mem_cons, mem_owns (as := as)]
    constructor
    · rintro (rfl | ⟨k, h⟩)
      · exact ⟨0, rfl⟩
      · exact ⟨k + 1, by simpa using h⟩
    · rintro ⟨k, h⟩
      cases k with
      | zero => simp at h; exact .inl h.symm
      | succ k => exact .inr ⟨k, by simpa using h⟩
  | .dat d :: as, i => by
    simp only [ownsOf, mem_owns (as := as)]
    constructor
    · rintro ⟨k, h⟩
      exact ⟨k + 1, by simpa using h⟩
    · rintro ⟨k, h⟩
      cases k with
      | zero => simp at h
      | succ k => exact ⟨k, by simpa using h⟩
  | .tmp d :: as, i => by
    simp only [ownsOf, mem_owns (as := as)]
    constructor
    · rintro ⟨k, h⟩
      exact ⟨k + 1, by simpa using h⟩
    · rintro ⟨k, h⟩
      cases k with
      | zero => simp at h
      | succ k => exact ⟨k, by simpa using h⟩
  | .inst d :: as, i => by
    simp only [ownsOf, mem_owns (as := as)]
    constructor
    · rintro ⟨k, h⟩
      exact ⟨k + 1, by simpa using h⟩
    · rintro ⟨k, h⟩
      cases k with
      | zero => simp at h
      | succ k => exact ⟨k, by simpa using h⟩
theorem owns_uniq : ∀ {as : List Ar} {i k k' : Nat}, (ownsOf as).Nodup → as[k]? = some (Ar.own i) → as[k']? = some (Ar.own i) → k = k'
  | [], i, k, k', nd, h1, h2 => by simp at h1
  | x :: as, i, 0, 0, nd, h1, h2 => rfl
  | x :: as, i, 0, k' + 1, nd, h1, h2 => by
    simp at h1
    subst h1
    have : i ∈ ownsOf as := mem_owns.mpr ⟨k', by simpa using h2⟩
    exact absurd this (List.nodup_cons.mp (show (i :: ownsOf as).Nodup from nd)).1
  | x :: as, i, k + 1, 0, nd, h1, h2 => by
    simp at h2
    subst h2
    have : i ∈ ownsOf as := mem_owns.mpr ⟨k, by simpa using h1⟩
    exact absurd this (List.nodup_cons.mp (show (i :: ownsOf as).Nodup from nd)).1
  | x :: as, i, k + 1, k' + 1, nd, h1, h2 => by
    have nd' : (ownsOf as).Nodup := by
      cases x with
      | own j => exact (List.nodup_cons.mp (show (j :: ownsOf as).Nodup from nd)).2
      | dat d => exact nd
      | tmp d => exact nd
      | inst d => exact nd
    rw [owns_uniq (k := k) (k' := k') nd' (by simpa using h1) (by simpa using h2)]
theorem svs_get : ∀ {as : List Ar} {xs : List SV} {k : Nat} {x : Ar}, svsOf ρ as = some xs → as[k]? = some x → ∃ y, xs[k]? = some y ∧ x.get ρ = some y
  | [], xs, k, x, h, e => by simp at e
  | a :: as, xs, k, x, h, e => by
    unfold svsOf at h
    split at h
    · rename_i y ys e1 e2
      cases h
      cases k with
      | zero =>
        simp at e
        subst e
        exact ⟨y, rfl, e1⟩
      | succ k =>
        obtain ⟨z, f1, f2⟩ := svs_get (k := k) e2 (show as[k]? = some x by simpa using e)
        exact ⟨z, by simpa using f1, f2⟩
    · cases h
theorem svs_len : ∀ {as : List Ar} {xs : List SV}, svsOf ρ as = some xs → xs.length = as.length
  | [], xs, h => by
    cases (show some [] = some xs from h)
    rfl
  | a :: as, xs, h => by
    unfold svsOf at h
    split at h
    · rename_i y ys e1 e2
      cases h
      rw [List.length_cons, List.length_cons, svs_len e2]
    · cases h
theorem back_len : ∀ {as : List Ar} {ys : List SV} {ρ : En}, (Dv.backTo as ys ρ).length = ρ.length
  | [], _, ρ => by simp [Dv.backTo]
  | .own i :: as, [], ρ => by simp [Dv.backTo]
  | .own i :: as, y :: ys, ρ => by
    unfold Dv.backTo
    rw [back_len, List.length_set]
  | .dat _ :: as, [], ρ => by simp [Dv.backTo]
  | .dat _ :: as, y :: ys, ρ => by
    unfold Dv.backTo
    exact back_len
  | .tmp _ :: as, [], ρ => by simp [Dv.backTo]
  | .tmp _ :: as, y :: ys, ρ => by
    unfold Dv.backTo
    exact back_len
  | .inst _ :: as, [], ρ => by simp [Dv.backTo]
  | .inst _ :: as, y :: ys, ρ => by
    unfold Dv.backTo
    exact back_len
theorem back_out : ∀ {as : List Ar} {ys : List SV} {ρ : En} {i : Nat}, i ∉ ownsOf as → (Dv.backTo as ys ρ)[i]? = ρ[i]?
  | [], _, ρ, i, h => by simp [Dv.backTo]
  | .own j :: as, [], ρ, i, h => by simp [Dv.backTo]
  | .own j :: as, y :: ys, ρ, i, h => by
    have h' : i ≠ j ∧ i ∉ ownsOf as := by simpa [ownsOf] using h
    unfold Dv.backTo
    rw [back_out h'.2, List.getElem?_set_ne (Ne.symm h'.1)]
  | .dat _ :: as, [], ρ, i, h => by simp [Dv.backTo]
  | .dat _ :: as, y :: ys, ρ, i, h => by
    unfold Dv.backTo
    exact back_out (as := as) h
  | .tmp _ :: as, [], ρ, i, h => by simp [Dv.backTo]
  | .tmp _ :: as, y :: ys, ρ, i, h => by
    unfold Dv.backTo
    exact back_out (as := as) h
  | .inst _ :: as, [], ρ, i, h => by simp [Dv.backTo]
  | .inst _ :: as, y :: ys, ρ, i, h => by
    unfold Dv.backTo
    exact back_out (as := as) h
theorem back_in : ∀ {as : List Ar} {ys : List SV} {ρ : En} {i k : Nat} {y : SV}, (ownsOf as).Nodup → as[k]? = some (.own i) → ys[k]? = some y → i < ρ.length → (Dv.backTo as ys ρ)[i]? = some (some y)
  | [], _, ρ, i, k, y, nd, h, e, hl => by simp at h
  | _ :: _, [], ρ, i, k, y, nd, h, e, hl => by simp at e
  | x :: as, z :: ys, ρ, i, 0, y, nd, h, e, hl => by
    simp at h e
    subst h e
    unfold Dv.backTo
    rw [back_out (List.nodup_cons.mp (show (i :: ownsOf as).Nodup from nd)).1, List.getElem?_set_self hl]
  | .own j :: as, z :: ys, ρ, i, k + 1, y, nd, h, e, hl => by
    unfold Dv.backTo
    exact back_in (k := k) (List.nodup_cons.mp (show (j :: ownsOf as).Nodup from nd)).2 (by simpa using h) (by simpa using e) (by simpa using hl)
  | .dat _ :: as, z :: ys, ρ, i, k + 1, y, nd, h, e, hl => by
    unfold Dv.backTo
    exact back_in (as := as) (k := k) nd (by simpa using h) (by simpa using e) hl
  | .tmp _ :: as, z :: ys, ρ, i, k + 1, y, nd, h, e, hl => by
    unfold Dv.backTo
    exact back_in (as := as) (k := k) nd (by simpa using h) (by simpa using e) hl
  | .inst _ :: as, z :: ys, ρ, i, k + 1, y, nd, h, e, hl => by
    unfold Dv.backTo
    exact back_in (as := as) (k := k) nd (by simpa using h) (by simpa using e) hl
/-- two arguments claim nothing in common -/
theorem claims_uniq (A : AOks T F H w σ H0 as vs) (nd : (ownsOf as).Nodup) {p : Addr} {k k' : Nat} {x x' : Ar} {v v' : V} (e1 : as[k]? = some x) (e2 : vs[k]? = some v) (c : claims w x v p) (f1 : as[k']? = some x') (f2 : vs[k']? = some v') (c' : claims w x' v' p) : k' = k := by
  have own_new : ∀ {k : Nat} {x : Ar} {v : V}, as[k]? = some x → vs[k]? = some v → x.isNew = true → claims w x v p → v = .ref p ∧ w p = none := fun {k x v} g1 g2 n c => by
    obtain ⟨u, h1, h2⟩ := aoks_get A g1
    rw [g2] at h1
    cases h1
    obtain ⟨q, rfl, _, hw, _⟩ := aok_new h2 n
    have : V.ref q = V.ref p := by
      cases x with
      | tmp ds => exact c
      | inst d => exact c
      | dat d => cases n
      | own i => cases n
    cases this
    exact ⟨rfl, hw⟩
  cases hx : x.isNew with
  | true =>
    obtain ⟨rfl, hw⟩ := own_new e1 e2 hx c
    cases hx' : x'.isNew with
    | true =>
      obtain ⟨rfl, _⟩ := own_new f1 f2 hx' c'
      rcases Nat.lt_trichotomy k k' with h | h | h
      · exact (aoks_new A h e1 f1 e2 f2 hx hx').elim
      · exact h.symm
      · exact (aoks_new A h f1 e1 f2 e2 hx' hx).elim
    | false =>
      cases x' with
      | own i => rw [show w p = some i from c'] at hw; cases hw
      | dat d => exact c'.elim
      | tmp ds => cases hx'
      | inst d => cases hx'
  | false =>
    cases x with
    | own i =>
      cases hx' : x'.isNew with
      | true =>
        obtain ⟨rfl, hw⟩ := own_new f1 f2 hx' c'
        rw [show w p = some i from c] at hw
        cases hw
      | false =>
        cases x' with
        | own i' =>
          have h1 : w p = some i := c
          have h2 : w p = some i' := c'
          rw [h1] at h2
          cases h2
          exact owns_uniq nd f1 e1
        | dat d => exact c'.elim
        | tmp ds => cases hx'
        | inst d => cases hx'
    | dat d => exact c.elim
    | tmp ds => cases hx
    | inst d => cases hx
/-- the called def's state -/
theorem call_in (O : Ok T F H w σ ρ) (A : AOks T F H w σ H0 as vs) (nd : (ownsOf as).Nodup) (hx : svsOf ρ as = some xs) :
    Ok T F H (wA w 0 as vs) (vs.map some) (xs.map some) ∧ ∀ p i, wA w 0 as vs p = some i → i < vs.length := by
  have hl := aoks_len A
  refine ⟨⟨O.sub, fun p i hp => ?_, by rw [List.length_map, List.length_map, svs_len hx, hl], fun i y hy => ?_⟩, fun p i hp => ?_⟩
  · obtain ⟨k, x, v, rfl, e1, e2, c⟩ := wA_some hp
    cases hn : x.isNew with
    | true =>
      obtain ⟨u, h1, h2⟩ := aoks_get A e1
      rw [e2] at h1
      cases h1
      obtain ⟨q, rfl, _, _, hF, hH⟩ := aok_new h2 hn
      have : V.ref q = V.ref p := by
        cases x with
        | tmp ds => exact c
        | inst d => exact c
        | dat d => cases hn
        | own i => cases hn
      cases this
      exact ⟨hF, hH⟩
    | false =>
      cases x with
      | own i => exact O.own p i c
      | dat d => exact c.elim
      | tmp ds => cases hn
      | inst d => cases hn
  · rw [List.getElem?_map] at hy
    cases ex : xs[i]? with
    | none => rw [ex] at hy; cases hy
    | some y' =>
      rw [ex] at hy
      cases hy
      have hi : i < as.length := by
        have := (List.getElem?_eq_some_iff.mp ex).1
        rw [svs_len hx] at this
        exact this
      obtain ⟨z, g1, g2⟩ := svs_get hx (List.getElem?_eq_getElem hi)
      rw [ex] at g1
      cases g1
      obtain ⟨v, h1, h2⟩ := aoks_get A (List.getElem?_eq_getElem hi)
      refine ⟨v, by rw [List.getElem?_map, h1]; rfl, ?_⟩
      have at_ : ∀ {p : Addr}, claims w as[i] v p → wA w 0 as vs p = some i := fun c => by
        have := wA_at (j := 0) (List.getElem?_eq_getElem hi) h1 c fun k' x' v' f1 f2 c' => claims_uniq A nd (List.getElem?_eq_getElem hi) h1 c f1 f2 c'
        rwa [Nat.zero_add] at this
      generalize as[i] = x at g2 h2 at_
      cases x with
      | dat d =>
        cases g2
        exact h2
      | tmp ds =>
        cases g2
        obtain ⟨p, us, rfl, _, _, hF, hH, r⟩ := h2
        exact ⟨p, us, rfl, at_ rfl, hH, r⟩
      | inst c =>
        cases g2
        obtain ⟨p, dx, rfl, _, _, hF, hH, r⟩ := h2
        exact ⟨p, dx, [], rfl, at_ rfl, by rw [List.zip_nil_right]; exact hH, Nat.zero_le _, rfl, r⟩
      | own j =>
        have g2' : ρ[j]? = some (some y) := by
          have g : (match ρ[j]? with | some (some x) => some x | _ => none) = some y := g2
          split at g
          · rename_i y'' e
            cases g
            exact e
          · cases g
        obtain ⟨v', q1, q2⟩ := O.sl j y g2'
        have h2' : σ[j]? = some (some v) := h2
        rw [h2'] at q1
        cases q1
        cases y with
        | fv z =>
          cases z with
          | dat d => exact q2
          | lst ds =>
            obtain ⟨p, us, rfl, h3, h4, h5⟩ := q2
            exact ⟨p, us, rfl, at_ h3, h4, h5⟩
        | ins c ds =>
          obtain ⟨p, dx, us, rfl, h3, h4⟩ := q2
          exact ⟨p, dx, us, rfl, at_ h3, h4⟩
  · obtain ⟨k, x, v, rfl, e1, e2, c⟩ := wA_some hp
    have := (List.getElem?_eq_some_iff.mp e2).1
    omega
/-- whose an address is, behind the call -/
def wB (w wc : Wn) (as : List Ar) : Wn := fun p => match wc p with
  | some j => (match as[j]? with
    | some (.own i) => some i
    | _ => none)
  | none => (match w p with
    | some i => if i ∈ ownsOf as then none else some i
    | none => none)
theorem call_out {wc : Wn} (O : Ok T F H w σ ρ) (s : Sp2 F0 H0 w0 F H w) (A : AOks T F H w σ H0 as vs) (nd : (ownsOf as).Nodup) (hx : svsOf ρ as = some xs) (hl : ys.length = xs.length)
    (O' : Ok T F' H' wc (vs.map some) (ys.map some)) (s' : Sp2 F H (wA w 0 as vs) F' H' wc) :
    Ok T F' H' (wB w wc as) σ (Dv.backTo as ys ρ) ∧ Sp2 F0 H0 w0 F' H' (wB w wc as) ∧ ∀ x v, TvOk T H F' H' wc x v → TvOk T H0 F' H' (wB w wc as) x v := by
  have hal := aoks_len A
  -- an address of another slot is out of the called def's reach
  have other : ∀ p i, w p = some i → i ∉ ownsOf as → wA w 0 as vs p = none := fun p i hw hi => wA_none fun k x v e1 e2 c => by
    cases hn : x.isNew with
    | true =>
      obtain ⟨u, h1, h2⟩ := aoks_get A e1
      rw [e2] at h1
      cases h1
      obtain ⟨q, rfl, _, hq, _, _⟩ := aok_new h2 hn
      have : V.ref q = V.ref p := by
        cases x with
        | tmp ds => exact c
        | inst d => exact c
        | dat d => cases hn
        | own i => cases hn
      cases this
      rw [hw] at hq
      cases hq
    | false =>
      cases x with
      | own j =>
        have : w p = some j := c
        rw [hw] at this
        cases this
        exact hi (mem_owns.mpr ⟨k, e1⟩)
      | dat d => exact c.elim
      | tmp ds => cases hn
      | inst d => cases hn
  -- what stood at the base and is nobody's
  have old : ∀ p, H0 p ≠ none → w p = none → wA w 0 as vs p = none := fun p h0 hw => wA_none fun k x v e1 e2 c => by
    cases hn : x.isNew with
    | true =>
      obtain ⟨u, h1, h2⟩ := aoks_get A e1
      rw [e2] at h1
      cases h1
      obtain ⟨q, rfl, h3, _, _, _⟩ := aok_new h2 hn
      have : V.ref q = V.ref p := by
        cases x with
        | tmp ds => exact c
        | inst d => exact c
        | dat d => cases hn
        | own i => cases hn
      cases this
      exact h0 h3
    | false =>
      cases x with
      | own j =>
        have : w p = some j := c
        rw [hw] at this
        cases this
      | dat d => exact c.elim
      | tmp ds => cases hn
      | inst d => cases hn
  have wb : ∀ p i, wB w wc as p = some i → (∃ j, wc p = some j ∧ as[j]? = some (.own i)) ∨ (wc p = none ∧ w p = some i ∧ i ∉ ownsOf as) := fun p i h => by
    unfold wB at h
    split at h
    · rename_i j e
      split at h
      · rename_i i' e2
        cases h
        exact .inl ⟨j, e, e2⟩
      · cases h
    · rename_i e
      split at h
      · rename_i i' e2
        split at h
        · cases h
        · cases h
          exact .inr ⟨e, e2, by assumption⟩
      · cases h
  refine ⟨⟨O'.sub, fun p i hp => ?_, by rw [back_len]; exact O.len, fun i y hy => ?_⟩, ⟨fun p o h => s'.ext p o (s.ext p o h), fun p o h h0 => ?_, fun p h => s'.keep p (s.keep p h), fun p h h0 hf => ?_, fun p i hp => ?_⟩, fun x v hx' => ?_⟩
  · rcases wb p i hp with ⟨j, e1, e2⟩ | ⟨e1, e2, e3⟩
    · exact O'.own p j e1
    · obtain ⟨h1, h2⟩ := O.own p i e2
      exact ⟨s'.nofr p h2 (other p i e2 e3) h1, s'.keep p h2⟩
  · by_cases hi : i ∈ ownsOf as
    · obtain ⟨k, hk⟩ := mem_owns.mp hi
      have hkl : k < ys.length := by
        have := (List.getElem?_eq_some_iff.mp hk).1
        rw [hl, svs_len hx]
        exact this
      obtain ⟨v, h1, h2⟩ := aoks_get A hk
      have h2' : σ[i]? = some (some v) := h2
      have hil : i < ρ.length := by
        rw [O.len]
        exact (List.getElem?_eq_some_iff.mp h2').1
      rw [back_in nd hk (List.getElem?_eq_getElem hkl) hil] at hy
      cases hy
      obtain ⟨v', q1, q2⟩ := O'.sl k ys[k] (by rw [List.getElem?_map, List.getElem?_eq_getElem hkl]; rfl)
      rw [List.getElem?_map, h1] at q1
      cases q1
      refine ⟨v, h2', ?_⟩
      have at_ : ∀ {p : Addr}, wc p = some k → wB w wc as p = some i := fun c => by
        unfold wB
        rw [c]
        simp only
        rw [hk]
      generalize ys[k] = y at q2
      cases y with
      | fv z =>
        cases z with
        | dat d => exact q2
        | lst ds =>
          obtain ⟨p, us, rfl, h3, h4, h5⟩ := q2
          exact ⟨p, us, rfl, at_ h3, h4, h5⟩
      | ins c ds =>
        obtain ⟨p, dx, us, rfl, h3, h4⟩ := q2
        exact ⟨p, dx, us, rfl, at_ h3, h4⟩
    · rw [back_out hi] at hy
      obtain ⟨v, q1, q2⟩ := O.sl i y hy
      refine ⟨v, q1, q2.mono s'.ext fun p hp => ?_⟩
      have h3 := other p i hp hi
      have h4 := (O.own p i hp).2
      refine ⟨?_, fun o' ho => s'.same p o' ho h3⟩
      unfold wB
      rw [s'.nw h4 h3]
      simp only
      rw [hp]
      simp only
      rw [if_neg hi]
  · have h1 := s.same p o h h0
    exact s'.same p o h1 (old p (some_ne h) (s.nw (some_ne h) h0))
  · have hw := s.nw h h0
    exact s'.nofr p (s.keep p h) (old p h hw) (s.nofr p h h0 hf)
  · rcases wb p i hp with ⟨j, e1, e2⟩ | ⟨e1, e2, e3⟩
    · rcases s'.ownd p j e1 with z | z
      · obtain ⟨k, x, v, e4, e5, e6, c⟩ := wA_some z
        rw [Nat.zero_add] at e4
        subst e4
        rw [e2] at e5
        cases e5
        exact s.ownd p i c
      · exact .inr (s.back z)
    · exact s.ownd p i e2
  · cases x with
    | dat d => exact hx'
    | lst ds =>
      obtain ⟨p, us, rfl, h0, h1, h2, h3, h4⟩ := hx'
      refine ⟨p, us, rfl, s.back h0, ?_, h2, h3, h4⟩
      have hw : w p = none := by
        cases e : w p with
        | none => rfl
        | some i => exact absurd h0 (O.own p i e).2
      unfold wB
      rw [h1]
      simp only
      rw [hw]
end
end Dv
end
section
set_option Elab.async false
set_option maxRecDepth 100000
set_option linter.all false
/-! Calls, as code -/
namespace Dv
open PySem PySem.Spec L2

/-- a call of a known value at the slots σ -/
def cS (X : Cx) (σ : St) (f : Value) : List V → Hp → VK → Prop := fun vs H Q => ∀ (pins : List (Addr × Obj)) (s : Shared) (us : List Value), Inv X pins σ H s → Vals vs us → wpAny (model X.prog X.w) X.A (call f us) (EP X pins σ Q) X.xe s
/-- the def at g keeps its promise -/
def FnC (X : Cx) (T : Tb) (k : Nat) (φ : Fn) (g : Addr) : Prop := ∃ fd ps, Binds X.K fd ps [] ∧ FnOk X.prog X.w X.K X.mg X.base (L2.CX X.prog X.w) k g fd ps (spOf T φ)
section
variable {T : Tb} {X : Cx} {W : WX} {F H F0 H0 F' H' : Hp} {w w0 w' : Wn} {σ : St} {ρ : En} {a b e o : Expr} {es : List Expr} {pos apos p : Pos} {as : List Ar} {vs : List V} {k : Nat} {φ : Fn} {g : Addr} {x : Str} {Q : VK}
theorem cS_fn (hf : FnC X T k φ g) (hr : Room k X.A) (tk : Takes X W) (h : spOf T φ vs H Q (WE W σ)) : cS X σ (.ref g) vs H Q := fun pins s us I r => by
  obtain ⟨fd, ps, hb, F⟩ := hf
  exact run_fnS (E := fun _ => WE W σ) F hr hb (passAt tk σ) I r h
theorem cS_mk {C : Addr} (mk : Mk X.K C g) (hf : FnC X T k φ g) (hr : Room (k + 1) X.A) (tk : Takes X W)
    (h : ∀ x dx, H x = none → H dx = none → dx ≠ x → spOf T φ (.ref x :: vs) (upd (upd H dx (.own x)) x (.ins C dx [])) (fun v H2 => v = .non ∧ Q (.ref x) H2) (WE W σ)) : cS X σ (.ref C) vs H Q := fun pins s us I r => by
  obtain ⟨fd, ps, hb, F⟩ := hf
  have hq := h (s.heap.objs.size + 1) s.heap.objs.size (I.hok.fresh (Nat.le_succ _)) (I.hok.fresh (Nat.le_refl _)) (Nat.ne_of_lt (Nat.lt_succ_self _))
  have I2 := Inv.made (C := C) I
  have r2 : Vals (V.ref (s.heap.objs.size + 1) :: vs) (Value.ref (s.heap.objs.size + 1) :: us) := .cons rfl r
  have hl : (Value.ref (s.heap.objs.size + 1) :: us ++ []).length = ps.length := by
    have e := r2.length
    rw [F.len _ _ _ _ hq] at e
    rw [List.append_nil]
    exact e.symm
  refine wpAny_call (make_map (f := g) I.kIn mk.makes mk.init (beq_iff_eq.mp mk.fn) (codeAny_mono (F.run _ X.stack _ _ ⟨Value.ref (s.heap.objs.size + 1) :: us, []⟩ (Value.ref (s.heap.objs.size + 1) :: us ++ []) _ _ (WE W σ) (hr.make C us [])
    (I2.env0.make C us []) (hb _ (Value.ref (s.heap.objs.size + 1) :: us) I2.kIn hl) (by rw [List.append_nil]; exact r2) hq) fun r s' hq' => ?_))
  cases r with
  | error e => exact passAt tk σ pins _ _ e s' I2 hq'
  | ok fl =>
    cases fl with
    | ret u =>
      obtain ⟨v, H', I3, rv, ev, q3⟩ := I2.after hq'
      subst ev
      exact ⟨rv, ⟨V.ref (s.heap.objs.size + 1), H', I3, rfl, q3⟩⟩
    | next => exact False.elim hq'
    | brk => exact False.elim hq'
    | cont => exact False.elim hq'
/-- f(..) of a def or a class of the module -/
theorem pe_callC {v : Value} {t : TA} (hg : Gl X x) (hm : X.mg x = some v) (hk : PySem.W.keepIn X.K v = true) (ha : PA X (e :: es) t) (hdb : (x == ("__debug__" : Str)) = false) (he : starEach (e :: es) X.env = (false, eval e X.env) :: starEach es X.env)
    (hpl : (PySem.backTo pos (starEach es X.env)).any (·.1) = false) : PE X (.Call (.Name x p) (e :: es) [] pos) (fun σ H Q => t σ H fun vs H1 => cS X σ v vs H1 Q) := by
  refine ⟨fun pins s σ H Q I h => ?_⟩
  refine wpAny_Call_Name_kw (ld_glob I hg hm ?_ hdb)
  exact PySem.W.callWith_K (h₀ := X.base) I.ok.mod.kin hk (thn (ha.run pos pins s σ H _ I h) fun us s1 ⟨vs, H1, I1, r, q⟩ => ⟨I1.kIn, q pins s1 us I1 r⟩) he hpl
theorem pe_callC0 {v : Value} (hg : Gl X x) (hm : X.mg x = some v) (hk : PySem.W.keepIn X.K v = true) (hdb : (x == ("__debug__" : Str)) = false) : PE X (.Call (.Name x p) [] [] pos) (fun σ H Q => cS X σ v [] H Q) := by
  refine ⟨fun pins s σ H Q I h => ?_⟩
  refine wpAny_Call_Name_kw (ld_glob I hg hm ?_ hdb)
  exact PySem.W.callWith_K0 I.kIn hk (h pins s [] I .nil)
/-- what stands between an instance and its method -/
theorem meth_tree {env : Env} {args : List Expr} {m : Str} (hbase : attributeBase o m env (eval o env) = eval o env) (hfew : methodCallForm (args.length + ([] : List Keyword).length) (PySem.backTo pos (starEach args env)) (backToKw pos (keywordEach [] env)) = true) (hline : (apos.endLine == pos.line) = true) :
    eval (.Call (.Attribute o m apos) args [] pos) env = (do
      let ov ← eval o env
      standAt apos.atName
      let (f, first) ← holding [ov] (getMethod ov m (do return (← importBound o env).getD true))
      callWith pos f first (PySem.backTo pos (starEach args env)) (backToKw pos (keywordEach [] env))) := by
  rw [arm_eval_Call, hbase]
  have hpos : methodCallPos true o env apos pos = pure pos := by unfold methodCallPos; simp [hline]
  unfold methodCall calleeOf
  rw [hfew, hpos]
  simp only [if_true, pure_bind]
theorem pe_methC {m : Str} {t : TA} {te : TE} (hbase : attributeBase o m X.env (eval o X.env) = eval o X.env) (hfew : methodCallForm ((e :: es).length + ([] : List Keyword).length) (PySem.backTo pos (starEach (e :: es) X.env)) (backToKw pos (keywordEach [] X.env)) = true) (hline : (apos.endLine == pos.line) = true)
    (ho : PE X o te) (ha : PA X (e :: es) t) (hst : starEach (e :: es) X.env = (false, eval e X.env) :: starEach es X.env) (hpl : (PySem.backTo pos (starEach es X.env)).any (·.1) = false) :
    PE X (.Call (.Attribute o m apos) (e :: es) [] pos) (fun σ H Q => te σ H fun x H1 => ∃ a C dx fs g, x = .ref a ∧ H1 a = some (.ins C dx fs) ∧ Cls X.K C ∧ Meth X.K C m g ∧ fs.lookup m = none ∧ t σ H1 fun vs H2 => cS X σ (.ref g) (x :: vs) H2 Q) := by
  refine ⟨fun pins s σ H Q I h => ?_⟩
  refine PySem.W.methodCall_KW (thn (ho.run pins s σ H _ I h) fun u s1 ⟨x, H1, I1, rx, a, C, dx, fs, g, ex, ea, c, hm, l, q⟩ => ?_) (meth_tree hbase hfew hline)
  subst ex
  obtain rfl : u = Value.ref a := rx
  refine getmeth_ok I1 ea c hm l ?_
  exact PySem.W.callWith_K (first := [.ref a]) (h₀ := X.base) I.ok.mod.kin hm.kp (thn (ha.run pos pins s1 σ H1 _ I1 q) fun us s2 ⟨vs, H2, I2, r, q2⟩ => ⟨I2.kIn, q2 pins s2 (.ref a :: us) I2 (.cons rfl r)⟩) hst hpl
theorem pe_methC0 {m : Str} {te : TE} (hbase : attributeBase o m X.env (eval o X.env) = eval o X.env) (hline : (apos.endLine == pos.line) = true) (ho : PE X o te) :
    PE X (.Call (.Attribute o m apos) [] [] pos) (fun σ H Q => te σ H fun x H1 => ∃ a C dx fs g, x = .ref a ∧ H1 a = some (.ins C dx fs) ∧ Cls X.K C ∧ Meth X.K C m g ∧ fs.lookup m = none ∧ cS X σ (.ref g) [x] H1 Q) := by
  refine ⟨fun pins s σ H Q I h => ?_⟩
  refine PySem.W.methodCall_KW (thn (ho.run pins s σ H _ I h) fun u s1 ⟨x, H1, I1, rx, a, C, dx, fs, g, ex, ea, c, hm, l, q⟩ => ?_) (meth_tree (args := []) hbase rfl hline)
  subst ex
  obtain rfl : u = Value.ref a := rx
  refine getmeth_ok I1 ea c hm l ?_
  exact PySem.W.callWith_K0 (first := [.ref a]) I1.kIn hm.kp (q pins s1 [.ref a] I1 (.cons rfl .nil))
/-- a def's promise is asked rightly -/
theorem sp_call (O : Ok T F H w σ ρ) (s : Sp2 F0 H0 w0 F H w) (A : AOks T F H w σ H0 as vs) (h : (callF φ as ρ).holds (KR T F0 H0 w0 σ Q) (KX T W F0 H0 w0 σ)) : spOf T φ vs H Q (WE W σ) := by
  unfold callF at h
  split at h
  · rename_i xs hx
    split at h
    · rename_i nd
      obtain ⟨c1, c2⟩ := call_in O A nd hx
      refine ⟨F, _, xs, c1, c2, ?_⟩
      split at h
      · rename_i y ys e
        (try rw [e])
        (try dsimp only)
        split at h
        · rename_i hl
          intro F' H' w' v O' s' r'
          obtain ⟨k1, k2, k3⟩ := call_out O s A nd hx hl O' s'
          exact h F' H' _ v k1 k2 (k3 _ _ r')
        · exact h.elim
      · rename_i y ys e
        (try rw [e])
        (try dsimp only)
        split at h
        · rename_i hl
          intro F' H' w' O' s' cls d hd
          obtain ⟨k1, k2, k3⟩ := call_out O s A nd hx hl O' s'
          exact h F' H' _ k1 k2 cls d hd
        · exact h.elim
      · exact h.elim
    · exact h.elim
  · exact h.elim
theorem aoks_upd {y : Addr} {u : HO} (hy : H y = none) : ∀ {as : List Ar} {vs : List V} {H0 : Hp}, AOks T F H w σ H0 as vs → AOks T F H w σ (upd H0 y u) as vs
  | [], vs, _, h => h
  | x :: as, vs, H0, h => by
    obtain ⟨v, us, H1, e, h1, h2, h3, h4⟩ := h
    refine ⟨v, us, upd H1 y u, e, ?_, fun b hb => ?_, fun p n e2 => ?_, aoks_upd hy h4⟩
    · cases x with
      | dat d => exact h1
      | own i => exact h1
      | tmp ds =>
        obtain ⟨p, vs', e3, h5, h6, h7, q, r⟩ := h1
        exact ⟨p, vs', e3, by rw [upd_ne (ne_of_none q hy)]; exact h5, h6, h7, q, r⟩
      | inst c =>
        obtain ⟨p, vs', e3, h5, h6, h7, q, r⟩ := h1
        exact ⟨p, vs', e3, by rw [upd_ne (ne_of_none q hy)]; exact h5, h6, h7, q, r⟩
    · by_cases hb' : b = y
      · subst hb'
        rw [upd_same] at hb
        cases hb
      · rw [upd_ne hb'] at hb ⊢
        exact h2 b hb
    · by_cases hb' : p = y
      · subst hb'
        rw [upd_same]
        exact fun z => nomatch z
      · rw [upd_ne hb']
        exact h3 p n e2
/-- what stands by itself is frozen -/
theorem frz_tmp {u : HO} {q : Addr} (O : Ok T F H w σ ρ) (s : Sp2 F0 H0 w0 F H w) (h3 : H q = some u) (h1 : w q = none) (h2 : F q = none) (h0 : H0 q = none) : Ok T (upd F q u) H w σ ρ ∧ Sp2 F0 H0 w0 (upd F q u) H w ∧ Le F (upd F q u) := by
  have hl : Le F (upd F q u) := upd_le h2
  refine ⟨⟨fun b o q' => ?_, fun b j q' => ?_, O.len, fun j y q' => ?_⟩, ⟨fun b o q' => hl b o (s.ext b o q'), s.same, s.keep, fun b q1 q2 q3 => ?_, s.ownd⟩, hl⟩
  · by_cases hb : b = q
    · subst hb
      rw [upd_same] at q'
      cases q'
      exact h3
    · rw [upd_ne hb] at q'
      exact O.sub b o q'
  · have hb : b ≠ q := fun z => by
      rw [z, h1] at q'
      cases q'
    rw [upd_ne hb]
    exact O.own b j q'
  · obtain ⟨v, q1, q2⟩ := O.sl j y q'
    exact ⟨v, q1, q2.mono hl fun b hb => ⟨hb, fun o z => z⟩⟩
  · have hb : b ≠ q := fun z => by
      rw [z] at q1
      exact q1 h0
    rw [upd_ne hb]
    exact s.nofr b q1 q2 q3
theorem sp_make {c n : Nat} (hc : c < T.nc) (hn : n = (T.fl c).length) (O : Ok T F H w σ ρ) (s : Sp2 F0 H0 w0 F H w) (A : AOks T F H w σ H0 as vs) (h : (makeF φ c n as ρ).holds (KR T F0 H0 w0 σ Q) (KX T W F0 H0 w0 σ)) (x dx : Addr) (hx0 : H x = none) (hdx : H dx = none) (hne : dx ≠ x) :
    spOf T φ (.ref x :: vs) (upd (upd H dx (.own x)) x (.ins (T.ca c) dx [])) (fun v H2 => v = .non ∧ Q (.ref x) H2) (WE W σ) := by
  obtain ⟨O1, s1, _, _, _⟩ := newH_ok (o := .own x) O s hdx
  obtain ⟨_, s1', _, _, _⟩ := newH_ok (o := .own x) O Sp2.refl hdx
  have hx1 : upd H dx (.own x) x = none := by rw [upd_ne (Ne.symm hne)]; exact hx0
  obtain ⟨O2, s2, hfx, hwx, h0x⟩ := newH_ok (o := .ins (T.ca c) dx []) O1 s1 hx1
  obtain ⟨_, s2', _, _, _⟩ := newH_ok (o := .ins (T.ca c) dx []) O1 s1' hx1
  have A2 : AOks T F (upd (upd H dx (.own x)) x (.ins (T.ca c) dx [])) w σ H0 (.inst c :: as) (.ref x :: vs) := by
    refine ⟨.ref x, vs, upd H0 x (.own x), rfl, ⟨x, dx, rfl, h0x, hwx, hfx, upd_same, hc⟩, fun b hb => ?_, fun p _ e => ?_, (aoks_upd hx0 A).step s2'⟩
    · by_cases hb' : b = x
      · subst hb'
        exact h0x
      · rw [upd_ne hb'] at hb
        exact hb
    · cases e
      rw [upd_same]
      exact fun z => nomatch z
  unfold makeF at h
  split at h
  · rename_i xs hx
    split at h
    · rename_i nd
      have hx' : svsOf ρ (.inst c :: as) = some (.ins c [] :: xs) := by
        show (match Ar.get ρ (.inst c), svsOf ρ as with | some x, some xs => some (x :: xs) | _, _ => none) = _
        rw [hx]
        rfl
      have nd' : (ownsOf (.inst c :: as)).Nodup := nd
      obtain ⟨c1, c2⟩ := call_in O2 A2 nd' hx'
      refine ⟨F, _, _, c1, c2, ?_⟩
      split at h
      · rename_i c' ds ys e
        rw [e]
        dsimp only
        split at h
        · rename_i hh
          obtain ⟨rfl, hl, hds⟩ := hh
          intro F' H' w' v O' s' r'
          obtain ⟨k1, k2, k3⟩ := call_out O2 s2 A2 nd' hx' (ys := .ins c' ds :: ys) (by rw [List.length_cons, List.length_cons, hl]) O' s'
          refine ⟨r', ?_⟩
          obtain ⟨v', q1, p, dx', us, q2, q3, q4, q5, q6, q7⟩ := O'.sl 0 (.ins c' ds) rfl
          cases q1
          cases q2
          have hw0 : wB w w' (.inst c' :: as) x = none := by
            unfold wB
            rw [q3]
            rfl
          obtain ⟨m1, m2, m3⟩ := frz_tmp k1 k2 q4 hw0 (O'.own x 0 q3).1 h0x
          exact h _ _ _ (.ref x) m1 m2 ⟨x, dx', us, rfl, upd_same, Reps.mono m3 _ _ q6, hds.trans hn, q7⟩
        · exact h.elim
      · rename_i y yy ys e
        (try rw [e])
        (try dsimp only)
        split at h
        · rename_i hl
          intro F' H' w' O' s' cls d hd
          obtain ⟨k1, k2, k3⟩ := call_out O2 s2 A2 nd' hx' (ys := yy :: ys) (by rw [List.length_cons, List.length_cons, hl]) O' s'
          exact h F' H' _ k1 k2 cls d hd
        · exact h.elim
      · exact h.elim
    · exact h.elim
  · exact h.elim
/-! ### as code -/
theorem de_call (tk : Takes X W) {ms : M (List Ar)} (hs : DL T (AOksR T) X W (e :: es) ms) (hf : FnC X T k φ g) (hr : Room k X.A) (hg : Gl X x) (hm : X.mg x = some (.ref g)) (hk : PySem.W.keepIn X.K (.ref g) = true) (hdb : (x == ("__debug__" : Str)) = false)
    (he : starEach (e :: es) X.env = (false, eval e X.env) :: starEach es X.env) (hpl : (PySem.backTo pos (starEach es X.env)).any (·.1) = false) : DE T X W (.Call (.Name x p) (e :: es) [] pos) (ms.bnd fun as => callF φ as) := fun F H w σ ρ Q O h => by
  refine tw_of (pe_callC hg hm hk pa_twA hdb he hpl) ?_
  refine hs.run O Sp2.refl h fun as ρ1 F1 H1 w1 vs h1 O1 s1 R1 => ?_
  exact cS_fn hf hr tk (sp_call O1 s1 R1 h1)
theorem de_call0 (tk : Takes X W) (hf : FnC X T k φ g) (hr : Room k X.A) (hg : Gl X x) (hm : X.mg x = some (.ref g)) (hk : PySem.W.keepIn X.K (.ref g) = true) (hdb : (x == ("__debug__" : Str)) = false) : DE T X W (.Call (.Name x p) [] [] pos) ((M.ret []).bnd fun as => callF φ as) := fun F H w σ ρ Q O h =>
  tw_of (pe_callC0 hg hm hk hdb) (cS_fn hf hr tk (sp_call O Sp2.refl (show AOks T F H w σ H [] [] from rfl) h))
theorem de_mk (tk : Takes X W) {c n : Nat} {ms : M (List Ar)} (hc : c < T.nc) (hn : n = (T.fl c).length) (mk : Mk X.K (T.ca c) g) (hs : DL T (AOksR T) X W (e :: es) ms) (hf : FnC X T k φ g) (hr : Room (k + 1) X.A) (hg : Gl X x) (hm : X.mg x = some (.ref (T.ca c))) (hdb : (x == ("__debug__" : Str)) = false)
    (he : starEach (e :: es) X.env = (false, eval e X.env) :: starEach es X.env) (hpl : (PySem.backTo pos (starEach es X.env)).any (·.1) = false) : DE T X W (.Call (.Name x p) (e :: es) [] pos) (ms.bnd fun as => makeF φ c n as) := fun F H w σ ρ Q O h => by
  refine tw_of (pe_callC hg hm mk.kp pa_twA hdb he hpl) ?_
  refine hs.run O Sp2.refl h fun as ρ1 F1 H1 w1 vs h1 O1 s1 R1 => ?_
  exact cS_mk mk hf hr tk (sp_make hc hn O1 s1 R1 h1)
theorem de_mk0 (tk : Takes X W) {c n : Nat} (hc : c < T.nc) (hn : n = (T.fl c).length) (mk : Mk X.K (T.ca c) g) (hf : FnC X T k φ g) (hr : Room (k + 1) X.A) (hg : Gl X x) (hm : X.mg x = some (.ref (T.ca c))) (hdb : (x == ("__debug__" : Str)) = false) : DE T X W (.Call (.Name x p) [] [] pos) ((M.ret []).bnd fun as => makeF φ c n as) := fun F H w σ ρ Q O h =>
  tw_of (pe_callC0 hg hm mk.kp hdb) (cS_mk mk hf hr tk (sp_make hc hn O Sp2.refl (show AOks T F H w σ H [] [] from rfl) h))
theorem lookup_zip_none : ∀ {ns : List Str} {vs : List V} {f : Str}, f ∉ ns → (ns.zip vs).lookup f = none
  | [], _, _, _ => rfl
  | _ :: _, [], _, _ => rfl
  | n :: ns, u :: vs, f, h => by
    rw [List.zip_cons_cons, List.lookup_cons]
    have h1 : f ≠ n := fun z => h (by rw [z]; exact List.mem_cons_self)
    have e : (f == n) = false := beq_eq_false_iff_ne.mpr h1
    rw [e]
    exact lookup_zip_none fun z => h (List.mem_cons_of_mem _ z)
/-- what of a method table is asked -/
structure MtK (X : Cx) (T : Tb) (k : Nat) (Φ : Nat → Fn) (m : Str) (tb : List (Nat × Nat)) : Prop where
  at_ : ∀ c f, tb.lookup c = some f → c < T.nc → m ∉ T.fl c ∧ ∃ g, Meth X.K (T.ca c) m g ∧ FnC X T k (Φ f) g
theorem de_meth (c : Ctx T X) {tys : List Ty} (kc : KCls T tys) (tk : Takes X W) {m : Str} {tb : List (Nat × Nat)} {Φ : Nat → Fn} {ma : M R} {ms : M (List Ar)} (km : MtK X T k Φ m tb) (ho : DE T X W o ma) (hs : DL T (AOksR T) X W (e :: es) ms) (hr : Room k X.A)
    (hbase : attributeBase o m X.env (eval o X.env) = eval o X.env) (hfew : methodCallForm ((e :: es).length + ([] : List Keyword).length) (PySem.backTo pos (starEach (e :: es) X.env)) (backToKw pos (keywordEach [] X.env)) = true) (hline : (apos.endLine == pos.line) = true)
    (hst : starEach (e :: es) X.env = (false, eval e X.env) :: starEach es X.env) (hpl : (PySem.backTo pos (starEach es X.env)).any (·.1) = false) :
    DE T X W (.Call (.Attribute o m apos) (e :: es) [] pos) (ma.bnd fun r => (getM r).bnd fun x => match x with
    | .dat (.ins c ds) => (M.opt (tb.lookup c)).bnd fun f => ms.bnd fun as => callF (Φ f) (.dat (.ins c ds) :: as)
    | _ => fun _ => .stuck) := fun F H w σ ρ Q O h => by
  refine tw_of (pe_methC hbase hfew hline pe_tw pa_twA hst hpl) ?_
  refine ho.run O Sp2.refl h fun r ρ1 F1 H1 w1 v h1 O1 s1 R1 => ?_
  obtain ⟨x, ex, h2⟩ := get_holds h1
  have cx := R1.cn O1 ex
  split at h2
  · rename_i cc ds
    obtain ⟨f, ef, h3⟩ := optb h2
    have rp : Rep T F1 (.ins cc ds) v := cx
    obtain ⟨q, dx, us, rfl, h4, r4, hl, hc⟩ := id rp
    obtain ⟨nm, g, mt, fc⟩ := km.at_ _ _ ef hc
    refine ⟨q, T.ca cc, dx, _, g, rfl, O1.sub _ _ h4, by rw [c.K]; exact kc.cls cc hc, mt, lookup_zip_none nm, ?_⟩
    refine hs.run O1 s1 h3 fun as ρ2 F2 H2 w2 vs h5 O2 s2 R2 => ?_
    refine cS_fn fc hr tk (sp_call O2 (s1.trans s2) (show AOks T F2 H2 w2 σ H (.dat (.ins cc ds) :: as) (.ref q :: vs) from ⟨.ref q, vs, H, rfl, Rep.mono s2.ext _ _ rp, fun b z => z, fun p e _ => Bool.noConfusion e, AOks.old (fun a z => s1.back z) R2⟩) h5)
  · exact h2.elim
theorem de_meth0 (c : Ctx T X) {tys : List Ty} (kc : KCls T tys) (tk : Takes X W) {m : Str} {tb : List (Nat × Nat)} {Φ : Nat → Fn} {ma : M R} (km : MtK X T k Φ m tb) (ho : DE T X W o ma) (hr : Room k X.A)
    (hbase : attributeBase o m X.env (eval o X.env) = eval o X.env) (hline : (apos.endLine == pos.line) = true) :
    DE T X W (.Call (.Attribute o m apos) [] [] pos) (ma.bnd fun r => (getM r).bnd fun x => match x with
    | .dat (.ins c ds) => (M.opt (tb.lookup c)).bnd fun f => (M.ret []).bnd fun as => callF (Φ f) (.dat (.ins c ds) :: as)
    | _ => fun _ => .stuck) := fun F H w σ ρ Q O h => by
  refine tw_of (pe_methC0 hbase hline pe_tw) ?_
  refine ho.run O Sp2.refl h fun r ρ1 F1 H1 w1 v h1 O1 s1 R1 => ?_
  obtain ⟨x, ex, h2⟩ := get_holds h1
  have cx := R1.cn O1 ex
  split at h2
  · rename_i cc ds
    obtain ⟨f, ef, h3⟩ := optb h2
    have rp : Rep T F1 (.ins cc ds) v := cx
    obtain ⟨q, dx, us, rfl, h4, r4, hl, hc⟩ := id rp
    obtain ⟨nm, g, mt, fc⟩ := km.at_ _ _ ef hc
    refine ⟨q, T.ca cc, dx, _, g, rfl, O1.sub _ _ h4, by rw [c.K]; exact kc.cls cc hc, mt, lookup_zip_none nm, ?_⟩
    exact cS_fn fc hr tk (sp_call O1 s1 (show AOks T F1 H1 w1 σ H [.dat (.ins cc ds)] [.ref q] from ⟨.ref q, [], H, rfl, rp, fun b z => z, fun p e _ => Bool.noConfusion e, rfl⟩) h3)
  · exact h2.elim
end
end Dv
end
section
set_option Elab.async false
set_option maxRecDepth 100000
set_option linter.all false
/-! zip of a tuple and a list, walked -/
namespace Dv
open PySem PySem.Spec PySem.W PySem.Calls PyProof.Rows RZ L2
section
variable {prog : Program} {w : World} {A : Around} {E : Value → Shared → Prop} {s : Shared} {z TI TO p q lp lq : Addr} {kp kq : Nat} {us vs : Array Value} {u v c1 c2 : Value}
/-- one more pair of a tuple's and a list's items -/
theorem mz_item {Q : Option Value → Shared → Prop} (D : ZipApart z TI TO p q lp lq) (hz : IsZip s.heap z TI TO .none) (hi : IsPair s.heap TI (.ref p) (.ref q)) (ho : IsPair s.heap TO c1 c2)
    (hp : s.heap.IsTupleIter p lp kp) (hq : s.heap.IsListIter q lq kq) (ha : s.heap.IsTuple lp us) (hb : s.heap.IsList lq vs) (hu : us[kp]? = some u) (hv : vs[kq]? = some v)
    (k : ∀ g : Heap, (∃ f, IsZip g z TI TO f ∧ f = rawInt s.heap.objs.size) → IsPair g TO u v → g.IsTupleIter p lp (kp + 1) → g.IsListIter q lq (kq + 1) → IsPair g s.heap.objs.size u v → g.objs.size = s.heap.objs.size + 1 →
      (∀ c o, c ≠ z → c ≠ TO → c ≠ p → c ≠ q → s.heap.get? c = some o → g.get? c = some o) → Q (some (.ref s.heap.objs.size)) { s with heap := g }) :
    wpAny (model prog w) A (pyNext (.ref z)) Q E s := by
  have ty : s.TypeIs (.ref z) "zip" := ⟨_, hz, rfl⟩
  have core : ∀ (B : Around) (E2 : Value → Shared → Prop), wpAny (model prog w) B (Builtin.«zip.__next__» ⟨[.ref z], []⟩) (fun fin t => ∃ x, fin = .done (.ret x) ∧ Q (some x) t) E2 s := fun B E2 => by
    show wpAny _ _ (field (.ref z) 2 >>= _) _ _ _
    refine wpAny_bind (wpAny_field hz rfl (x := .bool false) rfl ?_)
    show wpAny _ _ (field (.ref z) 3 >>= _) _ _ _
    refine wpAny_bind (wpAny_field hz rfl (x := .ref TI) rfl ?_)
    refine wpAny_bind (wpAny_seqItems hi rfl ?_)
    show wpAny _ _ (Builtin.SmallTypes.ownedTupleIsFree (.ref z) >>= _) _ _ _
    refine wpAny_bind ?_
    unfold Builtin.SmallTypes.ownedTupleIsFree
    refine wpAny_bind (wpAny_field hz rfl (x := .none) rfl (wpAny_pure ?_))
    rw [if_pos rfl]
    refine wpAny_bind (wpAny_rule (wpAny_bind (wpAny_field hz rfl (x := .ref TO) rfl (wpAny_bind (wpAny_setField_rec hz (by simp) fun g1 zz e1 => ?_)))))
    have z1 : IsZip g1 z TI TO .ellipsis := zz
    clear zz
    refine wpAny_bind ?_
    simp only [List.zipIdx_cons, List.zipIdx_nil, List.forIn_cons, List.forIn_nil]
    refine wpAny_bind (wpAny_bind (wpAny_onRaise ?_))
    show wpAny _ _ (Builtin.SmallTypes.nextOf (.ref p) >>= _) _ _ _
    refine wpAny_bind (nextOf_tuple_item (s := { s with heap := g1 }) (hp.extBut e1.extBut D.i1z) (ha.extBut e1.extBut D.l1z) hu fun g2 p2 e2 => wpAny_pure ?_)
    have o2 : IsPair g2 TO c1 c2 := e2.extBut _ _ D.TOi1 (e1.extBut _ _ D.TOz ho)
    refine wpAny_bind (wpAny_seqItems o2 rfl (wpAny_bind (wpAny_updateSeq_pair o2 fun g3 o3' e3 => ?_)))
    have o3 : IsPair g3 TO u c2 := o3'
    refine wpAny_bind (wpAny_letGo (wpAny_pure ?_))
    refine wpAny_bind (wpAny_bind (wpAny_onRaise ?_))
    show wpAny _ _ (Builtin.SmallTypes.nextOf (.ref q) >>= _) _ _ _
    have q3 := ((hq.extBut e1.extBut D.i2z).extBut e2.extBut D.i12.symm).extBut e3.extBut D.TOi2.symm
    have b3 := ((hb.extBut e1.extBut D.l2z).extBut e2.extBut D.l2i1).extBut e3.extBut D.l2TO
    refine wpAny_bind (wpAny_nextOf_list_item (s := { s with heap := g3 }) q3 b3 hv fun g4 q4 e4 => wpAny_pure ?_)
    have o4 : IsPair g4 TO u c2 := e4.extBut _ _ D.TOi2 o3
    refine wpAny_bind (wpAny_seqItems o4 rfl (wpAny_bind (wpAny_updateSeq_pair o4 fun g5 o5' e5 => ?_)))
    have o5 : IsPair g5 TO u v := o5'
    refine wpAny_bind (wpAny_letGo (wpAny_pure (wpAny_pure ?_)))
    refine wpAny_bind (wpAny_seqItems o5 rfl (wpAny_bind (wpAny_newTuple ?_)))
    have es : g5.objs.size = s.heap.objs.size := by rw [e5.1, e4.1, e3.1, e2.1, e1.1]
    have z5 : IsZip g5 z TI TO .ellipsis := e5.extBut _ _ D.TOz.symm (e4.extBut _ _ D.i2z.symm (e3.extBut _ _ D.TOz.symm (e2.extBut _ _ D.i1z.symm z1)))
    have kk : ∀ c o, c ≠ z → c ≠ TO → c ≠ p → c ≠ q → s.heap.get? c = some o → g5.get? c = some o := fun c o a1 a2 a3 a4 e => e5.extBut _ _ a2 (e4.extBut _ _ a4 (e3.extBut _ _ a2 (e2.extBut _ _ a3 (e1.extBut _ _ a1 e))))
    have p5 : g5.IsTupleIter p lp (kp + 1) := ((p2.extBut e3.extBut D.TOi1.symm).extBut e4.extBut D.i12).extBut e5.extBut D.TOi1.symm
    have q5 : g5.IsListIter q lq (kq + 1) := q4.extBut e5.extBut D.TOi2.symm
    show wpAny _ _ (Builtin.SmallTypes.ownedTupleHandOut (.ref z) (.ref g5.objs.size) >>= _) _ _ _
    refine wpAny_bind ?_
    unfold Builtin.SmallTypes.ownedTupleHandOut
    have lz : z < g5.objs.size := Heap.lt_size z5
    have z6 : IsZip (g5.push { cls := .type "tuple", data := .seq #[u, v] }) z TI TO .ellipsis := Heap.get?_push_of_some _ z5
    refine wpAny_bind (wpAny_setField_rec z6 (by simp) fun g7 z7' e7 => ?_)
    have z7 : IsZip g7 z TI TO (rawInt g5.objs.size) := z7'
    refine wpAny_setField_rec z7 (by simp) fun g8 z8' e8 => ?_
    have z8 : IsZip g8 z TI TO (rawInt g5.objs.size) := z8'
    have up : ∀ c o, c ≠ z → g5.get? c = some o → g8.get? c = some o := fun c o a e => e8.extBut _ _ a (e7.extBut _ _ a (Heap.get?_push_of_some _ e))
    have t8 : IsPair g8 g5.objs.size u v := e8.extBut _ _ (Nat.ne_of_gt lz) (e7.extBut _ _ (Nat.ne_of_gt lz) (Heap.get?_push_size _ rfl))
    have n8 : g8.objs.size = g5.objs.size + 1 := by rw [e8.1, e7.1, Heap.size_push]
    rw [es] at z8 t8 n8
    refine wpAny_pure ⟨_, rfl, ?_⟩
    show Q (some (.ref g5.objs.size)) _
    rw [es]
    exact k g8 ⟨_, z8, rfl⟩ (up _ _ D.TOz o5) (p5.at fun o e => up _ o D.i1z e) (q5.at fun o e => up _ o D.i2z e) t8 n8 fun c o a1 a2 a3 a4 e => up c o a1 (kk c o a1 a2 a3 a4 e)
  unfold pyNext
  exact wpAny_bind (wpAny_attempt (wpAny_callSpecial?_slot (name := Str.ofString "__next__") ty F.slot_zip_next
    (wpAny_call_entry F.slot_zip_next ty F.entry_zip_next (wpAny_mono (core _ _) (fun fin t ⟨x, e, h⟩ => ⟨x, e, wpAny_pure h⟩) fun _ _ h => h) (F.args_zip_next_1 _))))
theorem mz_end {Q : Option Value → Shared → Prop} (hh : A.handled = none) (D : ZipApart z TI TO p q lp lq) (hz : IsZip s.heap z TI TO .none) (hi : IsPair s.heap TI (.ref p) (.ref q)) (ho : IsPair s.heap TO c1 c2)
    (hp : s.heap.IsTupleIter p lp kp) (hq : s.heap.IsListIter q lq kq) (ha : s.heap.IsTuple lp us) (hb : s.heap.IsList lq vs) (he : us[kp]? = none ∨ vs[kq]? = none)
    (k : ∀ g : Heap, (∀ c o, c ≠ z → c ≠ TO → c ≠ p → c ≠ q → s.heap.get? c = some o → g.get? c = some o) → Q none { s with heap := g }) :
    wpAny (model prog w) A (pyNext (.ref z)) Q E s := by
  have ty : s.TypeIs (.ref z) "zip" := ⟨_, hz, rfl⟩
  have core : ∀ (B : Around) (Q2 : Fin → Shared → Prop) (E2 : Value → Shared → Prop), B.handled = none → (∀ (g : Heap) (e : Addr), (∀ c o, c ≠ z → c ≠ TO → c ≠ p → c ≠ q → s.heap.get? c = some o → g.get? c = some o) → (∃ o, g.get? e = some o ∧ o.cls = .type "StopIteration") → E2 (.ref e) { s with heap := g }) →
      wpAny (model prog w) B (Builtin.«zip.__next__» ⟨[.ref z], []⟩) Q2 E2 s := fun B Q2 E2 hB hE => by
    show wpAny _ _ (field (.ref z) 2 >>= _) _ _ _
    refine wpAny_bind (wpAny_field hz rfl (x := .bool false) rfl ?_)
    show wpAny _ _ (field (.ref z) 3 >>= _) _ _ _
    refine wpAny_bind (wpAny_field hz rfl (x := .ref TI) rfl ?_)
    refine wpAny_bind (wpAny_seqItems hi rfl ?_)
    show wpAny _ _ (Builtin.SmallTypes.ownedTupleIsFree (.ref z) >>= _) _ _ _
    refine wpAny_bind ?_
    unfold Builtin.SmallTypes.ownedTupleIsFree
    refine wpAny_bind (wpAny_field hz rfl (x := .none) rfl (wpAny_pure ?_))
    rw [if_pos rfl]
    refine wpAny_bind (wpAny_rule (wpAny_bind (wpAny_field hz rfl (x := .ref TO) rfl (wpAny_bind (wpAny_setField_rec hz (by simp) fun g1 zz e1 => ?_)))))
    have z1 : IsZip g1 z TI TO .ellipsis := zz
    clear zz
    refine wpAny_bind ?_
    simp only [List.zipIdx_cons, List.zipIdx_nil, List.forIn_cons, List.forIn_nil]
    refine wpAny_bind (wpAny_bind (wpAny_onRaise ?_))
    show wpAny _ _ (Builtin.SmallTypes.nextOf (.ref p) >>= _) _ _ _
    have stop : ∀ (g : Heap) (e : Addr), IsZip g z TI TO .ellipsis → (∀ c o, c ≠ z → c ≠ TO → c ≠ p → c ≠ q → s.heap.get? c = some o → g.get? c = some o) → (∃ o, g.get? e = some o ∧ o.cls = .type "StopIteration") → ∀ g' : Heap, Heap.SameBut z g g' → E2 (.ref e) { s with heap := g' } := fun g e zg kg ⟨oe, he1, he2⟩ g' sb => by
      have ne : e ≠ z := fun x => by
        subst x
        have zg' : g.get? e = some _ := zg
        rw [he1] at zg'
        injection zg' with zg'
        rw [zg'] at he2
        simp at he2
      exact hE g' e (fun c o a1 a2 a3 a4 x => sb.extBut _ _ a1 (kg c o a1 a2 a3 a4 x)) ⟨oe, sb.extBut _ _ ne he1, he2⟩
    cases hu : us[kp]? with
    | none =>
      refine wpAny_bind (nextOf_tuple_end (s := { s with heap := g1 }) hB (hp.extBut e1.extBut D.i1z) (ha.extBut e1.extBut D.l1z) hu fun g2 e e2 he2 => ?_)
      have z2 : IsZip g2 z TI TO .ellipsis := e2 _ _ D.i1z.symm z1
      exact wpAny_setField_rec z2 (by simp) fun g3 _ e3 => stop g2 e z2 (fun c o a1 _ a3 _ x => e2 _ _ a3 (e1.extBut _ _ a1 x)) he2 g3 e3
    | some u =>
      have hv : vs[kq]? = none := by
        rcases he with h | h
        · rw [hu] at h
          cases h
        · exact h
      refine wpAny_bind (nextOf_tuple_item (s := { s with heap := g1 }) (hp.extBut e1.extBut D.i1z) (ha.extBut e1.extBut D.l1z) hu fun g2 p2 e2 => wpAny_pure ?_)
      have o2 : IsPair g2 TO c1 c2 := e2.extBut _ _ D.TOi1 (e1.extBut _ _ D.TOz ho)
      refine wpAny_bind (wpAny_seqItems o2 rfl (wpAny_bind (wpAny_updateSeq_pair o2 fun g3 o3' e3 => ?_)))
      refine wpAny_bind (wpAny_letGo (wpAny_pure ?_))
      refine wpAny_bind (wpAny_bind (wpAny_onRaise ?_))
      show wpAny _ _ (Builtin.SmallTypes.nextOf (.ref q) >>= _) _ _ _
      have q3 := ((hq.extBut e1.extBut D.i2z).extBut e2.extBut D.i12.symm).extBut e3.extBut D.TOi2.symm
      have b3 := ((hb.extBut e1.extBut D.l2z).extBut e2.extBut D.l2i1).extBut e3.extBut D.l2TO
      refine wpAny_bind (wpAny_nextOf_list_end (s := { s with heap := g3 }) hB q3 b3 hv fun g4 e e4 he4 => ?_)
      have z4 : IsZip g4 z TI TO .ellipsis := e4 _ _ D.i2z.symm (e3.extBut _ _ D.TOz.symm (e2.extBut _ _ D.i1z.symm z1))
      exact wpAny_setField_rec z4 (by simp) fun g5 _ e5 => stop g4 e z4 (fun c o a1 a2 a3 a4 x => e4 _ _ a4 (e3.extBut _ _ a2 (e2.extBut _ _ a3 (e1.extBut _ _ a1 x)))) he4 g5 e5
  unfold pyNext
  refine wpAny_bind (wpAny_attempt (wpAny_callSpecial?_slot (name := Str.ofString "__next__") ty F.slot_zip_next
    (wpAny_call_entry F.slot_zip_next ty F.entry_zip_next (core _ _ _ hh fun g e hk he => ?_) (F.args_zip_next_1 _))))
  obtain ⟨o, ho, hc⟩ := he
  refine wpAny_bind (wpAny_isInstance (T := "StopIteration") (b := true) ⟨o, ho, hc⟩ isSubtype_stop ?_)
  exact wpAny_pure (k _ hk)
end
def mzH (h : Heap) (a b : Addr) : Heap := ((((h.push { cls := .type "tuple_iterator", data := .fields #[.ref a, .int 0 0] }).push { cls := .type "list_iterator", data := .fields #[.ref b, .int 0 0] }).push
  { cls := .type "tuple", data := .seq #[.ref h.objs.size, .ref (h.objs.size + 1)] }).push { cls := .type "tuple", data := .seq #[.none, .none] }).push { cls := .type "zip", data := .fields #[.none, .bool false, .bool false, .ref (h.objs.size + 2), .ref (h.objs.size + 3)] }
theorem mz_new (a b : Addr) (us vs : Array Value) :
    Meets (Builtin.«zip.__new__» ⟨[.type "zip", .ref a, .ref b], []⟩) (fun _ R s => s.heap.IsTuple a us ∧ s.heap.IsList b vs ∧
      R (.ok (.ret (.ref (s.heap.objs.size + 4)))) { s with heap := mzH s.heap a b }) :=
  .of_wp fun prog w A R s h => by
    obtain ⟨hp, gl, d, tk, os⟩ := s
    obtain ⟨ha, hb, h⟩ := h
    have hsub := sub_zip
    have ta : Heap.IsTuple (Shared.heap ⟨hp, gl, d, tk, os⟩) a us := ha
    have tb : Heap.IsList (Shared.heap ⟨hp.push { cls := .type "tuple_iterator", data := .fields #[.ref a, .int 0 0] }, gl, d, tk, os⟩) b vs := Heap.IsList.push hb _
    have z1 : ∀ o : Obj, (hp.push o).objs.size = hp.objs.size + 1 := fun o => Heap.size_push ..
    have z2 : ∀ o o2 : Obj, ((hp.push o).push o2).objs.size = hp.objs.size + 2 := fun o o2 => by rw [Heap.size_push, z1]
    have z3 : ∀ o o2 o3 : Obj, (((hp.push o).push o2).push o3).objs.size = hp.objs.size + 3 := fun o o2 o3 => by rw [Heap.size_push, z2]
    have z4 : ∀ o o2 o3 o4 : Obj, ((((hp.push o).push o2).push o3).push o4).objs.size = hp.objs.size + 4 := fun o o2 o3 o4 => by rw [Heap.size_push, z3]
    wp_walk using wpAny_pyIter_tuple ta, wpAny_pyIter_list tb
    refine ⟨_, rfl, ?_⟩
    unfold mzH at h
    dsimp only at h ⊢
    simp only [z1, z2, z3, z4] at h ⊢
    exact h
section
variable {prog : Program} {w : World} {A : Around} {E : Value → Shared → Prop} {s : Shared}
theorem call_mz {a b : Addr} {us vs : Array Value} {Q : Value → Shared → Prop} (ha : s.heap.IsTuple a us) (hb : s.heap.IsList b vs)
    (k : ∀ g : Heap, IsZip g (s.heap.objs.size + 4) (s.heap.objs.size + 2) (s.heap.objs.size + 3) .none → IsPair g (s.heap.objs.size + 2) (.ref s.heap.objs.size) (.ref (s.heap.objs.size + 1)) → IsPair g (s.heap.objs.size + 3) .none .none →
      g.IsTupleIter s.heap.objs.size a 0 → g.IsListIter (s.heap.objs.size + 1) b 0 → (∀ c o, s.heap.get? c = some o → g.get? c = some o) → Q (.ref (s.heap.objs.size + 4)) { s with heap := g }) :
    wpAny (model prog w) A (call (.type "zip") [.ref a, .ref b]) Q E s := by
  have z1 : ∀ o : Obj, (s.heap.push o).objs.size = s.heap.objs.size + 1 := fun o => Heap.size_push ..
  have z2 : ∀ o o2 : Obj, ((s.heap.push o).push o2).objs.size = s.heap.objs.size + 2 := fun o o2 => by rw [Heap.size_push, z1]
  have z3 : ∀ o o2 o3 : Obj, (((s.heap.push o).push o2).push o3).objs.size = s.heap.objs.size + 3 := fun o o2 o3 => by rw [Heap.size_push, z2]
  have z4 : ∀ o o2 o3 o4 : Obj, ((((s.heap.push o).push o2).push o3).push o4).objs.size = s.heap.objs.size + 4 := fun o o2 o3 o4 => by rw [Heap.size_push, z3]
  have y4 : ∀ {h : Heap} {o : Obj} {n : Nat}, h.objs.size = n → o.isFreed = false → (h.push o).get? n = some o := fun e hf => e ▸ Heap.get?_push_size _ hf
  refine callType_new F.called_zip (by decide) (F.typeCall_zip_2 _ _) (F.newCall_zip_2 _ _) (fun obj => F.args_object_init_3 obj _ _) F.entry_zip_new (mz_new a b us vs) ⟨ha, hb, ?_⟩
  have g5 : (mzH s.heap a b).get? (s.heap.objs.size + 4) = some _ := y4 (z4 _ _ _ _) rfl
  have i1 : (mzH s.heap a b).get? s.heap.objs.size = some { cls := .type "tuple_iterator", data := .fields #[.ref a, .int 0 0] } := Heap.get?_push_of_some _ (Heap.get?_push_of_some _ (Heap.get?_push_of_some _ (Heap.get?_push_of_some _ (y4 rfl rfl))))
  have i2 : (mzH s.heap a b).get? (s.heap.objs.size + 1) = some { cls := .type "list_iterator", data := .fields #[.ref b, .int 0 0] } := Heap.get?_push_of_some _ (Heap.get?_push_of_some _ (Heap.get?_push_of_some _ (y4 (z1 _) rfl)))
  refine ⟨⟨_, g5, rfl⟩, k _ g5 ?_ ?_ ⟨_, i1, rfl, rfl⟩ ⟨_, i2, rfl, rfl⟩ fun c o x => ?_⟩
  · exact Heap.get?_push_of_some _ (Heap.get?_push_of_some _ (y4 (z2 _ _) rfl))
  · exact Heap.get?_push_of_some _ (y4 (z3 _ _ _) rfl)
  · exact Heap.get?_push_of_some _ (Heap.get?_push_of_some _ (Heap.get?_push_of_some _ (Heap.get?_push_of_some _ (Heap.get?_push_of_some _ x))))
end
end Dv
end
section
set_option Elab.async false
set_option maxRecDepth 100000
set_option linter.all false
/-! zip of two sequences, a tuple and a list among them, as a walk -/
namespace Dv
open PySem PySem.Spec PySem.W PySem.Calls PyProof.Rows RZ L2
/-- pairs of a tuple's and a list's items, both as they stand at each turn -/
def ItzM (K : PySem.W.Frag) (p q : Addr) : It :=
  ⟨fun n G => ∃ (us vs : List V) (u v : V), SqT K G p us ∧ SqL K G q vs ∧ us[n]? = some u ∧ vs[n]? = some v,
    fun n G r G' => ∃ T u v, r = .ref T ∧ G T = none ∧ G' = upd G T (.tup [u, v]) ∧ (∀ us, SqT K G p us → us[n]? = some u) ∧ ∀ vs, SqL K G q vs → vs[n]? = some v,
    fun n G => ∃ us vs : List V, SqT K G p us ∧ SqL K G q vs ∧ (us.length ≤ n ∨ vs.length ≤ n)⟩
theorem five {c a1 a2 a3 a4 a5 : Addr} (h : c ∈ [a1, a2, a3, a4, a5]) : c = a1 ∨ c = a2 ∨ c = a3 ∨ c = a4 ∨ c = a5 := by simpa using h
theorem turn_mz {P : Program} {w : World} {K : PySem.W.Frag} {elts : List Expr} {kk : Nat} {tpos : Pos} {lp lq z TI TO p q : Addr} (D : ZipApart z TI TO p q lp lq) :
    Turn P w K (.Tuple elts kk tpos) (ItzM K lp lq) [z, TI, TO, p, q] z (fun n g => IsZip g z TI TO .none ∧ IsPair g TI (.ref p) (.ref q) ∧ (∃ c d, IsPair g TO c d) ∧ g.IsTupleIter p lp n ∧ g.IsListIter q lq n) where
  mem := by simp
  obj := fun n g st c hc => by
    obtain ⟨zz, ti, ⟨c1, c2, to⟩, ⟨o1, e1, _, d1⟩, ⟨o2, e2, _, d2⟩⟩ := st
    rcases five hc with r | r | r | r | r <;> rw [r]
    · exact ⟨_, zz, fun v h => nomatch h⟩
    · exact ⟨_, ti, fun v h => nomatch h⟩
    · exact ⟨_, to, fun v h => nomatch h⟩
    · refine ⟨o1, e1, fun v h => ?_⟩
      rw [d1] at h
      cases h
    · refine ⟨o2, e2, fun v h => ?_⟩
      rw [d2] at h
      cases h
  keep := fun n g g' st k => by
    obtain ⟨zz, ti, ⟨c1, c2, to⟩, ip, iq⟩ := st
    exact ⟨k z (by simp) _ zz, k TI (by simp) _ ti, ⟨c1, c2, k TO (by simp) _ to⟩, ip.at fun o => k p (by simp) o, iq.at fun o => k q (by simp) o⟩
  item := by
    intro X hP hw hK hc n pins s σ H E I hf st hg
    subst hP hw hK
    obtain ⟨zz, ti, ⟨c1, c2, to⟩, ip, iq⟩ := st
    obtain ⟨us, vs, x, y, su, sv, ex, ey⟩ := hg
    obtain ⟨as, ra, ta, _⟩ := I.tuple su
    obtain ⟨bs, rb, tb, _⟩ := I.list sv
    obtain ⟨u, gu, ru⟩ := ra.get ex
    obtain ⟨v, gv, rv⟩ := rb.get ey
    have lz : z < s.heap.objs.size := Heap.lt_size zz
    refine mz_item D zz ti to ip iq ta tb.isList (u := u) (v := v) (by simpa using gu) (by simpa using gv) fun g ⟨_, z', ef⟩ to' ip' iq' hT hn hk => ?_
    subst ef
    refine ⟨_, rfl, wpAny_letOwnedTupleGo_zip (s := { s with heap := g }) z' fun g2 z2 sb => ?_⟩
    have hT2 : g2.get? s.heap.objs.size = some { cls := .type "tuple", data := .seq #[u, v] } := (sb.2 _ (Nat.ne_of_gt lz)).trans hT
    have fresh : ObjOk X.prog X.w (upd H s.heap.objs.size (.tup [x, y])) g2 s.heap.objs.size (.tup [x, y]) :=
      ⟨by show 2 ≤ sizeLine; decide, [u, v], .cons ru (.cons rv .nil), ⟨_, hT2, rfl, _, rfl⟩⟩
    have I2 : Inv X pins σ (upd H s.heap.objs.size (.tup [x, y])) { s with heap := g2 } :=
      I.turnedNew (t' := s.toks) (ch := [z, TI, TO, p, q]) (fun c o nb e => (sb.2 c fun r => nb (by simp [r])).trans (hk c o (fun r => nb (by simp [r])) (fun r => nb (by simp [r])) (fun r => nb (by simp [r])) (fun r => nb (by simp [r])) e)) hf (Nat.le_refl _) fresh
    refine ⟨.ref s.heap.objs.size, _, I2, rfl, ⟨_, x, y, rfl, I.hok.fresh (Nat.le_refl _), rfl, fun l hl => by rw [I.tuple_inj hl su]; exact ex, fun l hl => by rw [I.list_inj hl sv]; exact ey⟩, ⟨z2, ?_, ⟨u, v, ?_⟩, ?_, ?_⟩, fun c hcm => ?_⟩
    · exact (sb.2 _ D.TIz).trans (hk _ _ D.TIz D.TITO D.TIi1 D.TIi2 ti)
    · exact (sb.2 _ D.TOz).trans to'
    · exact ip'.at fun o e => (sb.2 _ D.i1z).trans e
    · exact iq'.at fun o e => (sb.2 _ D.i2z).trans e
    · have lt : c < s.heap.objs.size := by
        rcases five hcm with r | r | r | r | r <;> rw [r]
        · exact lz
        · exact Heap.lt_size ti
        · exact Heap.lt_size to
        · obtain ⟨_, e1, _⟩ := ip
          exact Heap.lt_size e1
        · obtain ⟨_, e2, _⟩ := iq
          exact Heap.lt_size e2
      rw [upd_ne (Nat.ne_of_lt lt)]
      exact (hf c hcm).1
  done := by
    intro X hP hw hK hc n pins s σ H E I hf st hg
    subst hP hw hK
    obtain ⟨zz, ti, ⟨c1, c2, to⟩, ip, iq⟩ := st
    obtain ⟨us, vs, su, sv, fin⟩ := hg
    obtain ⟨as, ra, ta, _⟩ := I.tuple su
    obtain ⟨bs, rb, tb, _⟩ := I.list sv
    have n1 := ra.length
    have n2 := rb.length
    have he : as.toArray[n]? = none ∨ bs.toArray[n]? = none := fin.imp (fun r => by simp; omega) fun r => by simp; omega
    exact mz_end (I.ok.hd hc) D zz ti to ip iq ta tb.isList he fun g hk => ⟨rfl, I.turnedL (t' := s.toks) (ch := [z, TI, TO, p, q]) (fun c o nb e =>
      hk c o (fun r => nb (by simp [r])) (fun r => nb (by simp [r])) (fun r => nb (by simp [r])) (fun r => nb (by simp [r])) e) hf⟩
  self := fun A n s Q E st h => wpAny_pyIter_zip st.1 h
def iZipM (K : PySem.W.Frag) (ta : TA) : TI := fun σ H R => ta σ H fun ws G => ∃ p q us vs, ws = [.ref p, .ref q] ∧ ((SqL K G p us ∧ SqL K G q vs ∧ R (Itz K p q) G) ∨ (SqT K G p us ∧ SqT K G q vs ∧ R (ItzT K p q) G) ∨ (SqT K G p us ∧ SqL K G q vs ∧ R (ItzM K p q) G))
theorem pi_zipM {X : Cx} {e e2 : Expr} {ta : TA} {p pos tpos : Pos} {elts : List Expr} {kk : Nat} (hg : Gl X "zip") (hm : X.mg "zip" = none) (ha : PA X [e, e2] ta)
    (hs : starEach [e, e2] X.env = (false, eval e X.env) :: starEach [e2] X.env) (hpl : (PySem.backTo pos (starEach [e2] X.env)).any (·.1) = false) :
    PI X (.Tuple elts kk tpos) (.Call (.Name "zip" p) [e, e2] [] pos) (iZipM X.K ta) := by
  refine ⟨fun pins s σ H R I h => ?_⟩
  refine Call_ (ld_blt I hg hm PyProof.Rows.boot_zip (PyProof.Rows.callWith_type1 (thn (ha.run pos pins s σ H _ I h) fun us t ⟨ws, G, J, rs, r⟩ => ?_) hs hpl))
  obtain ⟨a, b, xs, ys, ew, r⟩ := r
  subst ew
  cases rs with
  | cons r1 rs =>
    cases rs with
    | cons r2 rs =>
      cases rs
      cases r1
      cases r2
      have free : ∀ c, c ∈ [t.heap.objs.size + 4, t.heap.objs.size + 2, t.heap.objs.size + 3, t.heap.objs.size, t.heap.objs.size + 1] → FpOk X pins G c := fun c hc => by
        have le : t.heap.objs.size ≤ c := by
          rcases five hc with r | r | r | r | r <;> rw [r]
          · exact Nat.le_add_right _ _
          · exact Nat.le_add_right _ _
          · exact Nat.le_add_right _ _
          · exact Nat.le_refl _
          · exact Nat.le_add_right _ _
        exact J.fpOk le (J.hok.fresh le)
      rcases r with ⟨sa, sb, r⟩ | ⟨sa, sb, r⟩ | ⟨sa, sb, r⟩
      · obtain ⟨as, ra, qa, _⟩ := J.list sa
        obtain ⟨bs, rb, qb, _⟩ := J.list sb
        refine call_zip_2 qa.isList qb.isList fun g zz ti to ip iq _ hk => wpAny_pyIter_zip zz ?_
        have J2 : Inv X pins σ G { t with heap := g } := J.kept (t' := t.toks) hk
        exact ⟨_, _, _, _, G, rfl, J2, turn_zip (PySem.W.ktu_apart t.heap.objs.size a b qa.lt qb.lt), ⟨zz, ti, ⟨_, _, to⟩, ip, iq⟩, free, r⟩
      · obtain ⟨as, ra, qa, _⟩ := J.tuple sa
        obtain ⟨bs, rb, qb, _⟩ := J.tuple sb
        obtain ⟨oa, ea, _⟩ := id qa
        obtain ⟨ob, eb, _⟩ := id qb
        refine call_zipT (show t.heap.IsTuple a as.toArray from qa) (show t.heap.IsTuple b bs.toArray from qb) fun g zz ti to ip iq _ hk => wpAny_pyIter_zip zz ?_
        have J2 : Inv X pins σ G { t with heap := g } := J.kept (t' := t.toks) hk
        exact ⟨_, _, _, _, G, rfl, J2, turn_zipT (PySem.W.ktu_apart t.heap.objs.size a b (Heap.lt_size ea) (Heap.lt_size eb)), ⟨zz, ti, ⟨_, _, to⟩, ip, iq⟩, free, r⟩
      · obtain ⟨as, ra, qa, _⟩ := J.tuple sa
        obtain ⟨bs, rb, qb, _⟩ := J.list sb
        obtain ⟨oa, ea, _⟩ := id qa
        refine call_mz (show t.heap.IsTuple a as.toArray from qa) qb.isList fun g zz ti to ip iq hk => wpAny_pyIter_zip zz ?_
        have J2 : Inv X pins σ G { t with heap := g } := J.kept (t' := t.toks) hk
        exact ⟨_, _, _, _, G, rfl, J2, turn_mz (PySem.W.ktu_apart t.heap.objs.size a b (Heap.lt_size ea) qb.lt), ⟨zz, ti, ⟨_, _, to⟩, ip, iq⟩, free, r⟩
end Dv
end
section
set_option Elab.async false
set_option maxRecDepth 100000
set_option linter.all false
/-! Walks, targets -/
namespace Dv
open PySem PySem.Spec L2

/-- what is wanted of a walk's iterator -/
def twI (X : Cx) (tg e : Expr) : TI := fun σ H R => ∀ (pins : List (Addr × Obj)) (s : Shared), Inv X pins σ H s →
  wpAny (model X.prog X.w) X.A (eval e X.env) (fun v s1 => wpAny (model X.prog X.w) X.A (pyIter v) (PIE X pins σ tg R) X.xe s1) X.xe s
theorem pi_twI {X : Cx} {tg e : Expr} : PI X tg e (twI X tg e) := ⟨fun pins s σ H R I h => h pins s I⟩
theorem twI_of {X : Cx} {tg e : Expr} {wi : TI} {σ : St} {H : Hp} {R : It → Hp → Prop} (p : PI X tg e wi) (h : wi σ H R) : twI X tg e σ H R := fun pins s I => p.run pins s σ H R I h
/-- the walk J yields the items ds -/
def ItOk (T : Tb) (F H : Hp) (w : Wn) (J : It) (ds : List D) : Prop := ∀ (i : Nat) F2 H2 w2 σ ρ, Ok T F2 H2 w2 σ ρ → Sp2 F H w F2 H2 w2 →
  (∀ d, ds[i]? = some d → J.go i H2 ∧ ∀ x H3, J.yld i H2 x H3 → ∃ F3, Ok T F3 H3 w2 σ ρ ∧ Sp2 F2 H2 w2 F3 H3 w2 ∧ Rep T F3 d x) ∧ (ds.length ≤ i → J.stop i H2)
/-- an iterated expression does m -/
def DI (T : Tb) (X : Cx) (W : WX) (tg e : Expr) (m : M (List D)) : Prop := ∀ F H w σ ρ (R : It → Hp → Prop), Ok T F H w σ ρ →
  (m ρ).holds (fun ds ρ' => ∀ F' H' w' J, Ok T F' H' w' σ ρ' → Sp2 F H w F' H' w' → ItOk T F' H' w' J ds → R J H') (KX T W F H w σ) → twI X tg e σ H R
/-- only the slots in as may have changed -/
def Kp (as : List Nat) (σ σ' : St) : Prop := σ'.length = σ.length ∧ ∀ i, i ∉ as → σ'[i]? = σ[i]?
theorem Kp.refl {as : List Nat} {σ : St} : Kp as σ σ := ⟨rfl, fun _ _ => rfl⟩
theorem Kp.trans {as : List Nat} {σ σ1 σ2 : St} (a : Kp as σ σ1) (b : Kp as σ1 σ2) : Kp as σ σ2 := ⟨b.1.trans a.1, fun i h => (b.2 i h).trans (a.2 i h)⟩
theorem Kp.mono {as bs : List Nat} {σ σ1 : St} (a : Kp as σ σ1) (h : ∀ i ∈ as, i ∈ bs) : Kp bs σ σ1 := ⟨a.1, fun i hi => a.2 i fun z => hi (h i z)⟩
theorem Kp.set {as : List Nat} {σ : St} {i : Nat} {v : Option V} (h : i ∈ as) : Kp as σ (σ.set i v) := ⟨List.length_set, fun j hj => List.getElem?_set_ne fun z => hj (by rw [← z]; exact h)⟩
theorem wipe_in {σ : St} {i : Nat} : ∀ {vs : List Nat}, i ∈ vs → (wipe σ vs)[i]? = if i < σ.length then some none else none
  | [], h => nomatch h
  | v :: vs, h => by
    unfold wipe
    by_cases e : v = i
    · subst e
      by_cases hl : v < σ.length
      · rw [List.getElem?_set_self (by rw [wipe_length]; exact hl), if_pos hl]
      · rw [List.getElem?_eq_none (by rw [List.length_set, wipe_length]; omega), if_neg hl]
    · rw [List.getElem?_set_ne e]
      exact wipe_in ((List.mem_cons.mp h).resolve_left (Ne.symm e))
theorem Kp.wipe {as : List Nat} {σ σ' : St} (h : Kp as σ σ') : L2.wipe σ' as = L2.wipe σ as := by
  apply List.ext_getElem?
  intro i
  by_cases hi : i ∈ as
  · rw [wipe_in hi, wipe_in hi, h.1]
  · rw [wipe_out hi, wipe_out hi, h.2 i hi]
theorem wipe_kp {as : List Nat} {σ : St} : Kp as σ (L2.wipe σ as) := ⟨wipe_length σ as, fun i hi => wipe_out hi⟩
/-- what is wanted of a target -/
def twG (X : Cx) (tg : Expr) : TG := fun v σ H Q => ∀ (pins : List (Addr × Obj)) (s : Shared) (u : Value), Inv X pins σ H s → RelV v u → wpAny (model X.prog X.w) X.A (assign tg X.env u) (fun _ s' => ∃ σ' H', Inv X pins σ' H' s' ∧ Q σ' H') X.xe s
theorem pg_twG {X : Cx} {tg : Expr} : PG X tg (twG X tg) := ⟨fun pins s σ H v u Q I r h => h pins s u I r⟩
theorem twG_of {X : Cx} {tg : Expr} {g : TG} {v : V} {σ : St} {H : Hp} {Q : St → Hp → Prop} (p : PG X tg g) (h : g v σ H Q) : twG X tg v σ H Q := fun pins s u I r => p.run pins s σ H v u Q I r h
def twGs (X : Cx) (ts : List Expr) : TGs := fun vs σ H Q => ∀ (pins : List (Addr × Obj)) (s : Shared) (us : List Value), Inv X pins σ H s → Vals vs us → wpAny (model X.prog X.w) X.A (assignInOrder ((assignEach ts X.env).map (·.2)) us) (fun _ s' => ∃ σ' H', Inv X pins σ' H' s' ∧ Q σ' H') X.xe s
theorem pgs_twGs {X : Cx} {ts : List Expr} : PGs X ts (twGs X ts) := ⟨fun pins s σ H vs us Q I r h => h pins s us I r⟩
theorem twGs_of {X : Cx} {ts : List Expr} {g : TGs} {vs : List V} {σ : St} {H : Hp} {Q : St → Hp → Prop} (p : PGs X ts g) (h : g vs σ H Q) : twGs X ts vs σ H Q := fun pins s us I r => p.run pins s σ H vs us Q I r h
def DG (T : Tb) (X : Cx) (tg : Expr) (g : Tg) (as : List Nat) : Prop := ∀ F H w σ ρ d v (Q : St → Hp → Prop), Ok T F H w σ ρ → Rep T F d v →
  (asgT g d ρ).holds (fun _ ρ' => ∀ w' σ', Ok T F H w' σ' ρ' → Sp2 F H w F H w' → Kp as σ σ' → Q σ' H) (fun _ _ => False) → twG X tg v σ H Q
def DGs (T : Tb) (X : Cx) (ts : List Expr) (gs : List Tg) (as : List Nat) : Prop := ∀ F H w σ ρ ds vs (Q : St → Hp → Prop), Ok T F H w σ ρ → Reps T F ds vs →
  (asgTs gs ds ρ).holds (fun _ ρ' => ∀ w' σ', Ok T F H w' σ' ρ' → Sp2 F H w F H w' → Kp as σ σ' → Q σ' H) (fun _ _ => False) → twGs X ts vs σ H Q
section
variable {T : Tb} {X : Cx} {W : WX} {F H F0 H0 F' H' : Hp} {w w0 w' : Wn} {σ : St} {ρ : En} {a b e e2 o tg : Expr} {es : List Expr} {pos apos p tpos : Pos} {vs : List V} {ds : List D}
theorem it_same {J : It} (h : ∀ (i : Nat) F2 H2 w2 σ ρ, Ok T F2 H2 w2 σ ρ → Sp2 F H w F2 H2 w2 → (∀ d, ds[i]? = some d → J.go i H2 ∧ ∀ x H3, J.yld i H2 x H3 → H3 = H2 ∧ Rep T F2 d x) ∧ (ds.length ≤ i → J.stop i H2)) : ItOk T F H w J ds := fun i F2 H2 w2 σ ρ O s => by
  obtain ⟨h1, h2⟩ := h i F2 H2 w2 σ ρ O s
  refine ⟨fun d hd => ⟨(h1 d hd).1, fun x H3 y => ?_⟩, h2⟩
  obtain ⟨rfl, r⟩ := (h1 d hd).2 x H3 y
  exact ⟨F2, O, Sp2.refl, r⟩
theorem it_list {a : Addr} (hs : ∀ F2 H2 w2 σ ρ, Ok T F2 H2 w2 σ ρ → Sp2 F H w F2 H2 w2 → SqL T.K H2 a vs) (r : Reps T F ds vs) : ItOk T F H w (Itl T.K a) ds := it_same fun i F2 H2 w2 σ ρ O s => by
  have h := hs _ _ _ _ _ O s
  refine ⟨fun d hd => ?_, fun hl => ⟨vs, h, by rw [r.len]; exact hl⟩⟩
  obtain ⟨v, hv, rv⟩ := r.get hd
  refine ⟨⟨vs, v, h, hv⟩, fun x H3 y => ⟨y.1, ?_⟩⟩
  have := y.2 vs h
  rw [hv] at this
  cases this
  exact Rep.mono s.ext d _ rv
theorem it_tup {a : Addr} (hs : SqT T.K F a vs) (r : Reps T F ds vs) : ItOk T F H w (Itt T.K a) ds := it_same fun i F2 H2 w2 σ ρ O s => by
  have h : SqT T.K H2 a vs := O.sub.t (Le.t s.ext hs)
  refine ⟨fun d hd => ?_, fun hl => ⟨vs, h, by rw [r.len]; exact hl⟩⟩
  obtain ⟨v, hv, rv⟩ := r.get hd
  refine ⟨⟨vs, v, h, hv⟩, fun x H3 y => ⟨y.1, ?_⟩⟩
  have := y.2 vs h
  rw [hv] at this
  cases this
  exact Rep.mono s.ext d _ rv
/-- e is walked: data that stands -/
theorem di_seq (c : Ctx T X) {ma : M R} (ha : DE T X W e ma) : DI T X W tg e ((ma.bnd takeM).bnd fun d => M.opt (itemsOf d)) := fun F H w σ ρ R O h => by
  intro pins s I
  have key : tw X e σ H (fun v H1 => ∀ s1, Inv X pins σ H1 s1 → ∀ u, RelV v u → wpAny (model X.prog X.w) X.A (pyIter u) (PIE X pins σ tg R) X.xe s1) := by
    refine ha.run O Sp2.refl (bnd_holds h) fun r ρ1 F1 H1 w1 v h1 O1 s1 R1 => ?_
    obtain ⟨d, ρ2, F2, w2, h2, O2, s2, r2⟩ := take_ok O1 s1 R1 h1
    obtain ⟨ds, ed, h3⟩ := opt_holds h2
    intro s3 I3 u ru
    have fin : ∀ J, ItOk T F2 H1 w2 J ds → R J H1 := fun J hJ => h3 _ _ _ J O2 s2 hJ
    have isl : ∀ q xs, v = .ref q → SqL X.K H1 q xs → R (Itl X.K q) H1 → wpAny (model X.prog X.w) X.A (pyIter u) (PIE X pins σ tg R) X.xe s3 := fun q xs ev hq q' => by
      subst ev
      cases ru
      obtain ⟨its, rv, p, hz⟩ := I3.list hq
      refine wpAny_pyIter_list p.isList ?_
      refine ⟨s3.heap.objs.size, [s3.heap.objs.size], _, _, H1, rfl, I3.kept (t' := s3.toks) fun b o e => Heap.get?_push_of_some _ e, turn_list q _, ⟨_, Heap.get?_push_size _ rfl, rfl, rfl⟩, fun b hb => ?_, q'⟩
      have e : b = s3.heap.objs.size := by simpa using hb
      subst e
      exact I3.fpOk (Nat.le_refl _) (I3.hok.fresh (Nat.le_refl _))
    have ist : ∀ q xs, v = .ref q → SqT X.K H1 q xs → R (Itt X.K q) H1 → wpAny (model X.prog X.w) X.A (pyIter u) (PIE X pins σ tg R) X.xe s3 := fun q xs ev hq q' => by
      subst ev
      cases ru
      obtain ⟨its, rv, p, hz⟩ := I3.tuple hq
      refine wpAny_pyIter_tuple (show s3.heap.IsTuple q its.toArray from p) ?_
      refine ⟨s3.heap.objs.size, [s3.heap.objs.size], _, _, H1, rfl, I3.kept (t' := s3.toks) fun b o e => Heap.get?_push_of_some _ e, turn_tuple q _, ⟨_, Heap.get?_push_size _ rfl, rfl, rfl⟩, fun b hb => ?_, q'⟩
      have e : b = s3.heap.objs.size := by simpa using hb
      subst e
      exact I3.fpOk (Nat.le_refl _) (I3.hok.fresh (Nat.le_refl _))
    unfold itemsOf at ed
    split at ed
    · cases ed
      obtain ⟨q, xs, ev, hq, rr⟩ := r2
      refine isl q xs ev (.of (O2.sub _ _ hq)) ?_
      rw [c.K]
      exact fin _ (it_list (fun F2 H2 w2 σ ρ O s => .of (O.sub _ _ (s.ext _ _ hq))) rr)
    · cases ed
      obtain ⟨q, xs, ev, hq, rr⟩ := r2
      refine isl q xs ev (by rw [c.K]; exact O2.sub.l hq) ?_
      rw [c.K]
      exact fin _ (it_list (fun F2 H2 w2 σ ρ O s => O.sub.l (Le.l s.ext hq)) rr)
    · cases ed
      obtain ⟨q, xs, ev, hq, rr⟩ := r2
      refine ist q xs ev (by rw [c.K]; exact O2.sub.t hq) ?_
      rw [c.K]
      exact fin _ (it_tup hq rr)
    · cases ed
      obtain ⟨q, xs, ob, ev, hq, rr, _⟩ := r2
      have hq' : SqT T.K F2 q xs := .inl (.inr ⟨ob, hq⟩)
      refine ist q xs ev (by rw [c.K]; exact O2.sub.t hq') ?_
      rw [c.K]
      exact fin _ (it_tup hq' rr)
    · rename_i z
      split at ed <;> cases ed
      have ev : v = .str z := r2
      subst ev
      obtain ⟨t, rfl⟩ := ru
      have q : R (Its z) H1 := fin _ (it_same fun i F2 H2 w2 σ ρ O s => by
        refine ⟨fun d hd => ?_, fun hl => (show z.cps.size ≤ i by simpa using hl)⟩
        rw [List.getElem?_map] at hd
        cases ec : z.cps.toList[i]? with
        | none => rw [ec] at hd; cases hd
        | some c =>
          rw [ec] at hd
          cases hd
          have hi : i < z.cps.size := by
            have := (List.getElem?_eq_some_iff.mp ec).1
            simpa using this
          refine ⟨hi, fun x H3 y => ⟨y.1, ?_⟩⟩
          obtain ⟨c', e1, e2⟩ := y.2
          rw [← Array.getElem?_toList, ec] at e1
          cases e1
          exact e2)
      cases ha : z.cps.all (· < 128)
      · exact wpAny_pyIter_wide ha (pi_one (tk := s3.toks) I3 _ (turn_str _ z t "str_iterator" (.inr rfl)) ⟨_, Heap.get?_push_size _ rfl, rfl, rfl⟩ q)
      · exact wpAny_pyIter_ascii ha (pi_one (tk := s3.toks) I3 _ (turn_str _ z t "str_ascii_iterator" (.inl rfl)) ⟨_, Heap.get?_push_size _ rfl, rfl, rfl⟩ q)
    · cases ed
  refine thn (key pins s I) fun u s1 ⟨v, H1, I1, r1, q1⟩ => q1 s1 I1 u r1
theorem rngD_get {lo : Int} {n i : Nat} {d : D} (h : (rngD lo n 1)[i]? = some d) : i < n ∧ d = .int (lo + i) := by
  unfold rngD at h
  rw [List.getElem?_map] at h
  cases e : (List.range n)[i]? with
  | none => rw [e] at h; cases h
  | some j =>
    rw [e] at h
    cases h
    obtain ⟨h1, h2⟩ := List.getElem?_eq_some_iff.mp e
    rw [List.getElem_range] at h2
    subst h2
    exact ⟨by simpa using h1, by show D.int (lo + (i : Int) * 1) = _; rw [Int.mul_one]⟩
theorem it_rng {lo : Int} {n : Nat} : ItOk T F H w (Itr lo n) (rngD lo n 1) := it_same fun i F2 H2 w2 σ ρ O s => by
  refine ⟨fun d hd => ?_, fun hl => (show n ≤ i by simpa [rngD] using hl)⟩
  obtain ⟨h1, rfl⟩ := rngD_get hd
  exact ⟨h1, fun x H3 y => ⟨y.1, y.2⟩⟩
theorem rngOk_ok {i j : Int} (h : rngOk i j = true) : -(2 ^ 62) ≤ i ∧ i < 2 ^ 62 ∧ -(2 ^ 62) ≤ j ∧ j < 2 ^ 62 := by
  unfold rngOk at h
  simp only [Bool.and_eq_true, decide_eq_true_eq] at h
  omega
theorem di_rng1 {ma : M R} (ha : DE T X W e ma) (hg : Gl X "range") (hm : X.mg "range" = none) (hs : starEach [e] X.env = [(false, eval e X.env)]) :
    DI T X W tg (.Call (.Name "range" p) [e] [] pos) (ma.bnd fun r => (getM r).bnd fun x => (M.opt (asInt x)).bnd fun j => if rngOk 0 j then M.ret (rngD 0 j.toNat 1) else fun _ => .stuck) := fun F H w σ ρ R O h => by
  refine twI_of (pi_range1 hg hm (pa_cons pe_tw pa_nil hs) hs) ?_
  refine ha.run O Sp2.refl h fun r ρ1 F1 H1 w1 v h1 O1 s1 R1 => ?_
  obtain ⟨x, ex, h2⟩ := get_holds h1
  obtain ⟨j, ej, h3⟩ := optb h2
  have e := (R1.cn O1 ex).int (i := j) (by rw [asInt_int ej]; rfl)
  subst e
  split at h3
  · rename_i hr
    have hr' := rngOk_ok hr
    exact ⟨j, rfl, hr'.2.2.1, hr'.2.2.2, h3 _ _ _ _ O1 s1 it_rng⟩
  · exact h3.elim
theorem di_rng2 {ma mb : M R} (ha : DE T X W e ma) (hb : DE T X W e2 mb) (hg : Gl X "range") (hm : X.mg "range" = none) (hs : starEach [e, e2] X.env = [(false, eval e X.env), (false, eval e2 X.env)]) (hs2 : starEach [e2] X.env = [(false, eval e2 X.env)]) :
    DI T X W tg (.Call (.Name "range" p) [e, e2] [] pos) (ma.bnd fun r => mb.bnd fun q => (getM r).bnd fun x => (getM q).bnd fun y => (M.opt (asInt x)).bnd fun i => (M.opt (asInt y)).bnd fun j => if rngOk i j then M.ret (rngD i (j - i).toNat 1) else fun _ => .stuck) := fun F H w σ ρ R O h => by
  refine twI_of (pi_range2 hg hm (pa_cons pe_tw (pa_cons pe_tw pa_nil hs2) (by rw [hs, hs2])) hs hs2) ?_
  refine ha.run O Sp2.refl h fun r ρ1 F1 H1 w1 v h1 O1 s1 R1 => ?_
  refine hb.run O1 s1 h1 fun q ρ2 F2 H2 w2 u h2 O2 s2 R2 => ?_
  obtain ⟨x, ex, h3⟩ := get_holds h2
  obtain ⟨y, ey, h4⟩ := get_holds h3
  obtain ⟨i, ei, h5⟩ := optb h4
  obtain ⟨j, ej, h6⟩ := optb h5
  have e1 := ((R1.step s2).cn O2 ex).int (i := i) (by rw [asInt_int ei]; rfl)
  have e2 := (R2.cn O2 ey).int (i := j) (by rw [asInt_int ej]; rfl)
  subst e1 e2
  split at h6
  · rename_i hr
    have hr' := rngOk_ok hr
    exact ⟨i, j, rfl, hr', h6 _ _ _ _ O2 (s1.trans s2) it_rng⟩
  · exact h6.elim
theorem new_pair {x y : V} {d f : D} {q : Addr} {F2 H2 : Hp} {w2 : Wn} {σ : St} {ρ : En} (O : Ok T F2 H2 w2 σ ρ) (h : H2 q = none) (r1 : Rep T F2 d x) (r2 : Rep T F2 f y) :
    ∃ F3, Ok T F3 (upd H2 q (.tup [x, y])) w2 σ ρ ∧ Sp2 F2 H2 w2 F3 (upd H2 q (.tup [x, y])) w2 ∧ Rep T F3 (.tup [d, f]) (.ref q) := by
  obtain ⟨O', s'⟩ := newF_ok (o := .tup [x, y]) O Sp2.refl h
  exact ⟨_, O', s', q, [x, y], rfl, .inl (.inl upd_same), x, [y], rfl, Rep.mono s'.ext d x r1, y, [], rfl, Rep.mono s'.ext f y r2, rfl⟩
theorem enumD_get : ∀ {ds : List D} {k i : Nat} {d : D}, (enumD k ds)[i]? = some d → ∃ f, ds[i]? = some f ∧ d = .tup [.int ((k + i : Nat) : Int), f]
  | [], k, i, d, h => by simp [enumD] at h
  | x :: r, k, 0, d, h => by
    simp [enumD] at h
    exact ⟨x, rfl, h.symm⟩
  | x :: r, k, i + 1, d, h => by
    obtain ⟨f, h1, h2⟩ := enumD_get (k := k + 1) (i := i) (show (enumD (k + 1) r)[i]? = some d by simpa [enumD] using h)
    refine ⟨f, by simpa using h1, ?_⟩
    rw [h2]
    congr 4
    omega
theorem enumD_len : ∀ {ds : List D} {k : Nat}, (enumD k ds).length = ds.length
  | [], k => rfl
  | x :: r, k => by
    unfold enumD
    rw [List.length_cons, List.length_cons, enumD_len]
theorem zipD_get : ∀ {xs ys : List D} {i : Nat} {d : D}, (zipD xs ys)[i]? = some d → ∃ f g, xs[i]? = some f ∧ ys[i]? = some g ∧ d = .tup [f, g]
  | [], ys, i, d, h => by simp [zipD] at h
  | x :: xs, [], i, d, h => by simp [zipD] at h
  | x :: xs, y :: ys, 0, d, h => by
    simp [zipD] at h
    exact ⟨x, y, rfl, rfl, h.symm⟩
  | x :: xs, y :: ys, i + 1, d, h => by
    obtain ⟨f, g, h1, h2, h3⟩ := zipD_get (i := i) (show (zipD xs ys)[i]? = some d by simpa [zipD] using h)
    exact ⟨f, g, by simpa using h1, by simpa using h2, h3⟩
theorem zipD_len : ∀ {xs ys : List D}, (zipD xs ys).length = min xs.length ys.length
  | [], ys => by simp [zipD]
  | x :: xs, [] => by simp [zipD]
  | x :: xs, y :: ys => by
    unfold zipD
    rw [List.length_cons, List.length_cons, List.length_cons, zipD_len]
    omega
theorem di_enum (c : Ctx T X) {ma : M R} {elts : List Expr} {kk : Nat} (ha : DE T X W e ma) (hg : Gl X "enumerate") (hm : X.mg "enumerate" = none) (hs : starEach [e] X.env = [(false, eval e X.env)]) :
    DI T X W (.Tuple elts kk tpos) (.Call (.Name "enumerate" p) [e] [] pos) ((ma.bnd takeM).bnd fun d => match d with
    | .lst ds => M.ret (enumD 0 ds)
    | _ => fun _ => .stuck) := fun F H w σ ρ R O h => by
  refine twI_of (pi_enum hg hm (pa_cons pe_tw pa_nil hs) hs) ?_
  refine ha.run O Sp2.refl (bnd_holds h) fun r ρ1 F1 H1 w1 v h1 O1 s1 R1 => ?_
  obtain ⟨d, ρ2, F2, w2, h2, O2, s2, r2⟩ := take_ok O1 s1 R1 h1
  split at h2
  · obtain ⟨q, xs, rfl, hq, rr⟩ := r2
    refine ⟨q, xs, rfl, .of (O2.sub _ _ hq), h2 _ _ _ _ O2 s2 ?_⟩
    rw [c.K]
    intro i F3 H3 w3 σ3 ρ3 O3 s3
    have hl : SqL T.K H3 q xs := .of (O3.sub _ _ (s3.ext _ _ hq))
    refine ⟨fun d hd => ?_, fun hh => ⟨xs, hl, by rw [rr.len]; rw [enumD_len] at hh; exact hh⟩⟩
    obtain ⟨f, h3, rfl⟩ := enumD_get hd
    obtain ⟨u, hu, ru⟩ := rr.get h3
    refine ⟨⟨xs, u, hl, hu⟩, fun x H4 y => ?_⟩
    obtain ⟨t, x', rfl, y1, rfl, y2⟩ := y
    have := y2 xs hl
    rw [hu] at this
    cases this
    have := new_pair (d := .int ((0 + i : Nat) : Int)) O3 y1 (x := .int (i : Nat)) (y := u) (f := f) (by rw [Nat.zero_add]; exact rfl) (Rep.mono s3.ext f u ru)
    exact this
  · exact h2.elim
theorem di_zip2 (c : Ctx T X) {ma mb : M R} {elts : List Expr} {kk : Nat} (ha : DE T X W e ma) (hb : DE T X W e2 mb) (hg : Gl X "zip") (hm : X.mg "zip" = none) (hs : starEach [e, e2] X.env = (false, eval e X.env) :: starEach [e2] X.env) (hs2 : starEach [e2] X.env = [(false, eval e2 X.env)]) :
    DI T X W (.Tuple elts kk tpos) (.Call (.Name "zip" p) [e, e2] [] pos) ((ma.bnd takeM).bnd fun d => (mb.bnd takeM).bnd fun f => match d, f with
    | .lst xs, .lst ys => M.ret (zipD xs ys)
    | .tup xs, .tup ys => M.ret (zipD xs ys)
    | _, _ => fun _ => .stuck) := fun F H w σ ρ R O h => by
  refine twI_of (RZ.pi_zipA hg hm (pa_cons pe_tw (pa_cons pe_tw pa_nil hs2) hs) hs (by rw [hs2]; rfl)) ?_
  refine ha.run O Sp2.refl (bnd_holds h) fun r ρ1 F1 H1 w1 v h1 O1 s1 R1 => ?_
  obtain ⟨d, ρ2, F2, w2, h2, O2, s2, r2⟩ := take_ok O1 s1 R1 h1
  refine hb.run O2 s2 (bnd_holds h2) fun r' ρ3 F3 H3 w3 u h3 O3 s3 R3 => ?_
  obtain ⟨f, ρ4, F4, w4, h4, O4, s4, r4⟩ := take_ok O3 s3 R3 h3
  have r2' := Rep.mono s4.ext d v r2
  split at h4
  · obtain ⟨q1, xs, rfl, hq1, rr1⟩ := r2'
    obtain ⟨q2, ys, rfl, hq2, rr2⟩ := r4
    refine ⟨q1, q2, xs, ys, rfl, .inl ⟨.of (O4.sub _ _ hq1), .of (O4.sub _ _ hq2), h4 _ _ _ _ O4 (s2.trans s4) ?_⟩⟩
    rw [c.K]
    intro i F5 H5 w5 σ5 ρ5 O5 s5
    have hl1 : SqL T.K H5 q1 xs := .of (O5.sub _ _ (s5.ext _ _ hq1))
    have hl2 : SqL T.K H5 q2 ys := .of (O5.sub _ _ (s5.ext _ _ hq2))
    refine ⟨fun d hd => ?_, fun hh => ⟨xs, ys, hl1, hl2, by rw [rr1.len, rr2.len]; rw [zipD_len] at hh; omega⟩⟩
    obtain ⟨f, g, e1, e2, rfl⟩ := zipD_get hd
    obtain ⟨v1, hv1, rv1⟩ := rr1.get e1
    obtain ⟨v2, hv2, rv2⟩ := rr2.get e2
    refine ⟨⟨xs, ys, v1, v2, hl1, hl2, hv1, hv2⟩, fun x H6 y => ?_⟩
    obtain ⟨t, x', x'', rfl, y1, rfl, y2, y3⟩ := y
    have z1 := y2 xs hl1
    have z2 := y3 ys hl2
    rw [hv1] at z1
    rw [hv2] at z2
    cases z1
    cases z2
    exact new_pair O5 y1 (Rep.mono s5.ext f v1 rv1) (Rep.mono s5.ext g v2 rv2)
  · obtain ⟨q1, xs, rfl, hq1, rr1⟩ := r2'
    obtain ⟨q2, ys, rfl, hq2, rr2⟩ := r4
    refine ⟨q1, q2, xs, ys, rfl, .inr ⟨by rw [c.K]; exact O4.sub.t hq1, by rw [c.K]; exact O4.sub.t hq2, h4 _ _ _ _ O4 (s2.trans s4) ?_⟩⟩
    rw [c.K]
    intro i F5 H5 w5 σ5 ρ5 O5 s5
    have hl1 : SqT T.K H5 q1 xs := O5.sub.t (Le.t s5.ext hq1)
    have hl2 : SqT T.K H5 q2 ys := O5.sub.t (Le.t s5.ext hq2)
    refine ⟨fun d hd => ?_, fun hh => ⟨xs, ys, hl1, hl2, by rw [rr1.len, rr2.len]; rw [zipD_len] at hh; omega⟩⟩
    obtain ⟨f, g, e1, e2, rfl⟩ := zipD_get hd
    obtain ⟨v1, hv1, rv1⟩ := rr1.get e1
    obtain ⟨v2, hv2, rv2⟩ := rr2.get e2
    refine ⟨⟨xs, ys, v1, v2, hl1, hl2, hv1, hv2⟩, fun x H6 y => ?_⟩
    obtain ⟨t, x', x'', rfl, y1, rfl, y2, y3⟩ := y
    have z1 := y2 xs hl1
    have z2 := y3 ys hl2
    rw [hv1] at z1
    rw [hv2] at z2
    cases z1
    cases z2
    exact new_pair O5 y1 (Rep.mono s5.ext f v1 rv1) (Rep.mono s5.ext g v2 rv2)
  · exact h4.elim
theorem di_zipM (c : Ctx T X) {ma mb : M R} {elts : List Expr} {kk : Nat} (ha : DE T X W e ma) (hb : DE T X W e2 mb) (hg : Gl X "zip") (hm : X.mg "zip" = none) (hs : starEach [e, e2] X.env = (false, eval e X.env) :: starEach [e2] X.env) (hs2 : starEach [e2] X.env = [(false, eval e2 X.env)]) :
    DI T X W (.Tuple elts kk tpos) (.Call (.Name "zip" p) [e, e2] [] pos) ((ma.bnd takeM).bnd fun d => (mb.bnd takeM).bnd fun f => match d, f with
    | .lst xs, .lst ys => M.ret (zipD xs ys)
    | .tup xs, .tup ys => M.ret (zipD xs ys)
    | .tup xs, .lst ys => M.ret (zipD xs ys)
    | _, _ => fun _ => .stuck) := fun F H w σ ρ R O h => by
  refine twI_of (pi_zipM hg hm (pa_cons pe_tw (pa_cons pe_tw pa_nil hs2) hs) hs (by rw [hs2]; rfl)) ?_
  refine ha.run O Sp2.refl (bnd_holds h) fun r ρ1 F1 H1 w1 v h1 O1 s1 R1 => ?_
  obtain ⟨d, ρ2, F2, w2, h2, O2, s2, r2⟩ := take_ok O1 s1 R1 h1
  refine hb.run O2 s2 (bnd_holds h2) fun r' ρ3 F3 H3 w3 u h3 O3 s3 R3 => ?_
  obtain ⟨f, ρ4, F4, w4, h4, O4, s4, r4⟩ := take_ok O3 s3 R3 h3
  have r2' := Rep.mono s4.ext d v r2
  split at h4
  · obtain ⟨q1, xs, rfl, hq1, rr1⟩ := r2'
    obtain ⟨q2, ys, rfl, hq2, rr2⟩ := r4
    refine ⟨q1, q2, xs, ys, rfl, .inl ⟨.of (O4.sub _ _ hq1), .of (O4.sub _ _ hq2), h4 _ _ _ _ O4 (s2.trans s4) ?_⟩⟩
    rw [c.K]
    intro i F5 H5 w5 σ5 ρ5 O5 s5
    have hl1 : SqL T.K H5 q1 xs := .of (O5.sub _ _ (s5.ext _ _ hq1))
    have hl2 : SqL T.K H5 q2 ys := .of (O5.sub _ _ (s5.ext _ _ hq2))
    refine ⟨fun d hd => ?_, fun hh => ⟨xs, ys, hl1, hl2, by rw [rr1.len, rr2.len]; rw [zipD_len] at hh; omega⟩⟩
    obtain ⟨f, g, e1, e2, rfl⟩ := zipD_get hd
    obtain ⟨v1, hv1, rv1⟩ := rr1.get e1
    obtain ⟨v2, hv2, rv2⟩ := rr2.get e2
    refine ⟨⟨xs, ys, v1, v2, hl1, hl2, hv1, hv2⟩, fun x H6 y => ?_⟩
    obtain ⟨t, x', x'', rfl, y1, rfl, y2, y3⟩ := y
    have z1 := y2 xs hl1
    have z2 := y3 ys hl2
    rw [hv1] at z1
    rw [hv2] at z2
    cases z1
    cases z2
    exact new_pair O5 y1 (Rep.mono s5.ext f v1 rv1) (Rep.mono s5.ext g v2 rv2)
  · obtain ⟨q1, xs, rfl, hq1, rr1⟩ := r2'
    obtain ⟨q2, ys, rfl, hq2, rr2⟩ := r4
    refine ⟨q1, q2, xs, ys, rfl, .inr (.inl ⟨by rw [c.K]; exact O4.sub.t hq1, by rw [c.K]; exact O4.sub.t hq2, h4 _ _ _ _ O4 (s2.trans s4) ?_⟩)⟩
    rw [c.K]
    intro i F5 H5 w5 σ5 ρ5 O5 s5
    have hl1 : SqT T.K H5 q1 xs := O5.sub.t (Le.t s5.ext hq1)
    have hl2 : SqT T.K H5 q2 ys := O5.sub.t (Le.t s5.ext hq2)
    refine ⟨fun d hd => ?_, fun hh => ⟨xs, ys, hl1, hl2, by rw [rr1.len, rr2.len]; rw [zipD_len] at hh; omega⟩⟩
    obtain ⟨f, g, e1, e2, rfl⟩ := zipD_get hd
    obtain ⟨v1, hv1, rv1⟩ := rr1.get e1
    obtain ⟨v2, hv2, rv2⟩ := rr2.get e2
    refine ⟨⟨xs, ys, v1, v2, hl1, hl2, hv1, hv2⟩, fun x H6 y => ?_⟩
    obtain ⟨t, x', x'', rfl, y1, rfl, y2, y3⟩ := y
    have z1 := y2 xs hl1
    have z2 := y3 ys hl2
    rw [hv1] at z1
    rw [hv2] at z2
    cases z1
    cases z2
    exact new_pair O5 y1 (Rep.mono s5.ext f v1 rv1) (Rep.mono s5.ext g v2 rv2)
  · obtain ⟨q1, xs, rfl, hq1, rr1⟩ := r2'
    obtain ⟨q2, ys, rfl, hq2, rr2⟩ := r4
    refine ⟨q1, q2, xs, ys, rfl, .inr (.inr ⟨by rw [c.K]; exact O4.sub.t hq1, .of (O4.sub _ _ hq2), h4 _ _ _ _ O4 (s2.trans s4) ?_⟩)⟩
    rw [c.K]
    intro i F5 H5 w5 σ5 ρ5 O5 s5
    have hl1 : SqT T.K H5 q1 xs := O5.sub.t (Le.t s5.ext hq1)
    have hl2 : SqL T.K H5 q2 ys := .of (O5.sub _ _ (s5.ext _ _ hq2))
    refine ⟨fun d hd => ?_, fun hh => ⟨xs, ys, hl1, hl2, by rw [rr1.len, rr2.len]; rw [zipD_len] at hh; omega⟩⟩
    obtain ⟨f, g, e1, e2, rfl⟩ := zipD_get hd
    obtain ⟨v1, hv1, rv1⟩ := rr1.get e1
    obtain ⟨v2, hv2, rv2⟩ := rr2.get e2
    refine ⟨⟨xs, ys, v1, v2, hl1, hl2, hv1, hv2⟩, fun x H6 y => ?_⟩
    obtain ⟨t, x', x'', rfl, y1, rfl, y2, y3⟩ := y
    have z1 := y2 xs hl1
    have z2 := y3 ys hl2
    rw [hv1] at z1
    rw [hv2] at z2
    cases z1
    cases z2
    exact new_pair O5 y1 (Rep.mono s5.ext f v1 rv1) (Rep.mono s5.ext g v2 rv2)
  · exact h4.elim
theorem rev_at {α : Type} {xs : List α} {i : Nat} (h : i < xs.length) : xs.reverse[i]? = xs[xs.length - 1 - i]? := List.getElem?_reverse h
theorem di_rev (c : Ctx T X) {ma : M R} (ha : DE T X W e ma) (hg : Gl X "reversed") (hm : X.mg "reversed" = none) (hs : starEach [e] X.env = (false, eval e X.env) :: starEach [] X.env) :
    DI T X W tg (.Call (.Name "reversed" p) [e] [] pos) ((ma.bnd takeM).bnd fun d => match d with
    | .lst ds => M.ret ds.reverse
    | .tup ds => M.ret ds.reverse
    | _ => fun _ => .stuck) := fun F H w σ ρ R O h => by
  refine twI_of (RT.pi_revA hg hm pe_tw hs) ?_
  refine ha.run O Sp2.refl (bnd_holds h) fun r ρ1 F1 H1 w1 v h1 O1 s1 R1 => ?_
  obtain ⟨d, ρ2, F2, w2, h2, O2, s2, r2⟩ := take_ok O1 s1 R1 h1
  split at h2
  · obtain ⟨q, xs, rfl, hq, rr⟩ := r2
    refine ⟨q, xs, rfl, .inl ⟨.of (O2.sub _ _ hq), h2 _ _ _ _ O2 s2 ?_⟩⟩
    rw [c.K]
    refine it_same fun i F3 H3 w3 σ3 ρ3 O3 s3 => ?_
    have hl : SqL T.K H3 q xs := .of (O3.sub _ _ (s3.ext _ _ hq))
    refine ⟨fun d hd => ?_, fun hh => by rw [List.length_reverse] at hh; show xs.length ≤ i; rw [rr.len]; exact hh⟩
    have hi := (List.getElem?_eq_some_iff.mp hd).1
    rw [List.length_reverse] at hi
    rw [rev_at hi] at hd
    obtain ⟨u, hu, ru⟩ := rr.get hd
    rw [← rr.len] at hu hi
    refine ⟨⟨hi, xs, u, hl, hu⟩, fun x H4 y => ⟨y.1, ?_⟩⟩
    have := y.2 xs hl
    rw [hu] at this
    cases this
    exact Rep.mono s3.ext d _ ru
  · obtain ⟨q, xs, rfl, hq, rr⟩ := r2
    refine ⟨q, xs, rfl, .inr ⟨by rw [c.K]; exact O2.sub.t hq, h2 _ _ _ _ O2 s2 ?_⟩⟩
    rw [c.K]
    refine it_same fun i F3 H3 w3 σ3 ρ3 O3 s3 => ?_
    have hl : SqT T.K H3 q xs := O3.sub.t (Le.t s3.ext hq)
    refine ⟨fun d hd => ?_, fun hh => by rw [List.length_reverse] at hh; show xs.length ≤ i; rw [rr.len]; exact hh⟩
    have hi := (List.getElem?_eq_some_iff.mp hd).1
    rw [List.length_reverse] at hi
    rw [rev_at hi] at hd
    obtain ⟨u, hu, ru⟩ := rr.get hd
    rw [← rr.len] at hu hi
    refine ⟨⟨hi, xs, u, hl, hu⟩, fun x H4 y => ⟨y.1, ?_⟩⟩
    have := y.2 xs hl
    rw [hu] at this
    cases this
    exact Rep.mono s3.ext d _ ru
  · exact h2.elim
/-! ### targets -/
theorem dg_nm {i : Nat} {x : Str} {as : List Nat} (hN : X.N.Nodup) (hi : X.N[i]? = some x) (hx : Loc X.env.scope x) (hf : X.fn x = true ∨ X.env.scope.names.lookup x = some .local) (ha : i ∈ as) (hl : ∀ σ : St, True) :
    DG T X (.Name x pos) (.nm i) as := fun F H w σ ρ d v Q O r h => by
  have hp : PG X (.Name x pos) (gName i) := pg_name hN hi hx hf
  intro pins s u I ru
  have hlt : i < σ.length := by rw [I.len]; exact (List.getElem?_eq_some_iff.mp hi).1
  obtain ⟨w', O', s'⟩ := put_ok (x := .dat d) O Sp2.refl r hlt
  exact hp.run pins s σ H v u _ I ru (h w' _ O' s' (Kp.set ha))
theorem dgs_nil {as : List Nat} : DGs T X [] [] as := fun F H w σ ρ ds vs Q O r h => by
  cases ds with
  | nil => exact twGs_of pgs_nil ⟨r, h _ _ O Sp2.refl Kp.refl⟩
  | cons _ _ => exact h.elim
theorem dgs_cons {g : Tg} {gs : List Tg} {ts : List Expr} {as : List Nat} (h1 : DG T X e g as) (h2 : DGs T X ts gs as) (hs : (assignEach (e :: ts) X.env).map (·.2) = assign e X.env :: (assignEach ts X.env).map (·.2)) : DGs T X (e :: ts) (g :: gs) as := fun F H w σ ρ ds vs Q O r h => by
  cases ds with
  | nil => exact h.elim
  | cons d ds =>
    obtain ⟨v, us, rfl, r1, r2⟩ := r
    refine twGs_of (pgs_cons pg_twG pgs_twGs hs) ⟨v, us, rfl, ?_⟩
    refine h1 F H w σ ρ d v _ O r1 (Out.holds_imp (bnd_holds (show ((asgT g d).bnd (fun _ => asgTs gs ds) ρ).holds _ _ from h)) (fun _ ρ1 q w1 σ1 O1 s1 k1 => ?_) fun _ _ q => q)
    refine h2 F H w1 σ1 ρ1 ds us Q O1 r2 (Out.holds_imp q (fun _ ρ2 q2 w2 σ2 O2 s2 k2 => q2 w2 σ2 O2 (s1.trans s2) (k1.trans k2)) fun _ _ q => q)
theorem asgTs_len : ∀ {gs : List Tg} {ds : List D} {ρ : En} {Q : Unit → En → Prop} {E : Ex → En → Prop}, (asgTs gs ds ρ).holds Q E → (∀ x ρ, E x ρ → False) → ds.length = gs.length
  | [], [], _, _, _, _, _ => rfl
  | [], _ :: _, _, _, _, h, _ => h.elim
  | _ :: _, [], _, _, _, h, _ => h.elim
  | g :: gs, d :: ds, ρ, Q, E, h, he => by
    have h' : ((asgT g d).bnd (fun _ => asgTs gs ds) ρ).holds Q E := h
    have := bnd_holds h'
    cases e : asgT g d ρ with
    | ok a ρ' =>
      rw [e] at this
      rw [List.length_cons, List.length_cons, asgTs_len this he]
    | exc x ρ' => rw [e] at this; exact (he _ _ this).elim
    | stuck => rw [e] at this; exact this.elim
theorem dg_tp (c : Ctx T X) {gs : List Tg} {ts : List Expr} {k : Nat} {as : List Nat} (h : DGs T X ts gs as) (hn : (assignEach ts X.env).length = gs.length) (hst : (assignEach ts X.env).findIdx? (·.1) = none) : DG T X (.Tuple ts k pos) (.tp gs) as := fun F H w σ ρ d v Q O r hq => by
  cases d with
  | tup ds =>
    obtain ⟨q, xs, rfl, h1, rr⟩ := r
    have hq' : (asgTs gs ds ρ).holds (fun _ ρ' => ∀ w' σ', Ok T F H w' σ' ρ' → Sp2 F H w F H w' → Kp as σ σ' → Q σ' H) (fun _ _ => False) := hq
    refine twG_of (pg_tup c.calm pgs_twGs hn hst) ⟨q, xs, rfl, by rw [c.K]; exact O.sub.t h1, by rw [rr.len]; exact asgTs_len hq' (fun _ _ z => z), ?_⟩
    exact h F H w σ ρ ds xs Q O rr hq'
  | _ => exact hq.elim
/-! ### a list lent to a walk -/
theorem lend_in {i : Nat} (O : Ok T F H w σ ρ) (e : ρ[i]? = some (some (.lst ds))) : ∃ a vs, σ[i]? = some (some (.ref a)) ∧ H a = some (.lst vs) ∧ Reps T F ds vs ∧ w a = some i ∧ Ok T F H (dropW w i) σ (ρ.set i none) := by
  obtain ⟨v, q1, a, vs, rfl, h1, h2, h3⟩ := O.sl i _ e
  refine ⟨a, vs, q1, h2, h3, h1, O.sub, fun b j q => O.own b j (dropW_some q).1, by rw [List.length_set]; exact O.len, fun j y q => ?_⟩
  have hlt : i < ρ.length := (List.getElem?_eq_some_iff.mp e).1
  by_cases hj : j = i
  · subst hj
    rw [List.getElem?_set_self hlt] at q
    cases q
  · rw [List.getElem?_set_ne (Ne.symm hj)] at q
    obtain ⟨u, q2, q3⟩ := O.sl j y q
    refine ⟨u, q2, q3.mono (fun _ _ z => z) fun b hb => ⟨?_, fun o z => z⟩⟩
    rw [dropW_ne (by rw [hb]; exact fun z => hj (Option.some.inj z))]
    exact hb
theorem lend_out {i : Nat} {σ' : St} {ρ' : En} {q : Addr} (O : Ok T F H w σ ρ) (s0 : Sp2 F0 H0 w0 F H w) (s1 : Sp2 F H (dropW w i) F' H' w') (O' : Ok T F' H' w' σ' ρ') (hv : σ'[i]? = some (some (.ref q))) (hw : w q = some i) (hH : H q = some (.lst vs)) (r : Reps T F ds vs) :
    Ok T F' H' (putW w' i q) σ' (ρ'.set i (some (.lst ds))) ∧ Sp2 F0 H0 w0 F' H' (putW w' i q) := by
  have hd : dropW w i q = none := by
    unfold dropW
    rw [if_pos hw]
  have hq' : H' q = some (.lst vs) := s1.same q _ hH hd
  have hw' : w' q = none := s1.nw (some_ne hH) hd
  have hF' : F' q = none := s1.nofr q (some_ne hH) hd (O.own q i hw).1
  have hlt : i < ρ'.length := by
    rw [O'.len]
    exact (List.getElem?_eq_some_iff.mp hv).1
  have pw : ∀ b j, putW w' i q b = some j → (b = q ∧ j = i) ∨ (b ≠ q ∧ w' b = some j) := fun b j h => by
    unfold putW at h
    split at h
    · rename_i hb
      cases h
      exact .inl ⟨hb, rfl⟩
    · rename_i hb
      exact .inr ⟨hb, (dropW_some h).1⟩
  refine ⟨⟨O'.sub, fun b j h => ?_, by rw [List.length_set]; exact O'.len, fun j y h => ?_⟩, ⟨fun b o h => s1.ext b o (s0.ext b o h), fun b o h h0 => ?_, fun b h => s1.keep b (s0.keep b h), fun b h h0 hf => ?_, fun b j h => ?_⟩⟩
  · rcases pw b j h with ⟨rfl, rfl⟩ | ⟨_, h⟩
    · exact ⟨hF', some_ne hq'⟩
    · exact O'.own b j h
  · by_cases hj : j = i
    · subst hj
      rw [List.getElem?_set_self hlt] at h
      cases h
      exact ⟨_, hv, q, vs, rfl, by unfold putW; rw [if_pos rfl], hq', Reps.mono s1.ext ds vs r⟩
    · rw [List.getElem?_set_ne (Ne.symm hj)] at h
      obtain ⟨u, q2, q3⟩ := O'.sl j y h
      refine ⟨u, q2, q3.mono (fun _ _ z => z) fun b hb => ⟨?_, fun o z => z⟩⟩
      unfold putW
      rw [if_neg (fun z => by rw [z, hw'] at hb; cases hb), dropW_ne (by rw [hb]; exact fun z => hj (Option.some.inj z))]
      exact hb
  · have h1 := s0.same b o h h0
    have h2 := s0.nw (some_ne h) h0
    refine s1.same b o h1 ?_
    unfold dropW
    split
    · rfl
    · exact h2
  · have h2 := s0.nw h h0
    refine s1.nofr b (s0.keep b h) ?_ (s0.nofr b h h0 hf)
    unfold dropW
    split
    · rfl
    · exact h2
  · rcases pw b j h with ⟨rfl, rfl⟩ | ⟨_, h⟩
    · exact s0.ownd b j hw
    · rcases s1.ownd b j h with z | z
      · exact s0.ownd b j (dropW_some z).1
      · exact .inr (s0.back z)
theorem it_lent {q : Addr} {i : Nat} (hH : H q = some (.lst vs)) (hd : w q = none) (r : Reps T F ds vs) : ItOk T F H w (Itl T.K q) ds := it_list (fun F2 H2 w2 σ ρ O s => .of (s.same q _ hH hd)) r
end
end Dv
end
section
set_option Elab.async false
set_option maxRecDepth 100000
set_option linter.all false
/-! Walks with a list lent; list comprehensions -/
namespace Dv
open PySem PySem.Spec L2

/-- behind a walk: a list that was lent is its slot's again -/
def CLo {α : Type} (T : Tb) (F H : Hp) (w : Wn) (σ : St) (F1 H1 : Hp) (w1 : Wn) (ln : Option Nat) (Kq : α → En → Prop) (Ke : Ex → En → Prop) (Kq1 : α → En → Prop) (Ke1 : Ex → En → Prop) : Prop :=
  ∀ F' H' w' σ' ρ', Ok T F' H' w' σ' ρ' → Sp2 F1 H1 w1 F' H' w' → (∀ i, ln = some i → σ'[i]? = σ[i]?) → ∃ w'' ρ'', Ok T F' H' w'' σ' ρ'' ∧ Sp2 F H w F' H' w'' ∧
    ((∀ a, w' a = none → (H1 a = none ∨ ∃ j, w1 a = some j) → w'' a = none) ∧ (∀ a, H1 a = none → H a = none) ∧ ∀ a j, w1 a = some j → w a = some j ∨ H a = none) ∧ (∀ a, Kq1 a ρ' → Kq a ρ'') ∧ (∀ e, Ke1 e ρ' → Ke e ρ'')
/-- an iterated expression, lent or not -/
def IT (T : Tb) (X : Cx) (W : WX) (tg e : Expr) (ci : CI) (m : M (List D)) : Prop := ∀ {α : Type} (k : List D → M α) F H w σ ρ (Kq : α → En → Prop) (Ke : Ex → En → Prop) (R : It → Hp → Prop), Ok T F H w σ ρ → (withIt ci m k ρ).holds Kq Ke → (∀ x ρ', Ke x ρ' → KX T W F H w σ x ρ') →
  (∀ items F1 H1 w1 ρ1 J (Kq1 : α → En → Prop) (Ke1 : Ex → En → Prop), Ok T F1 H1 w1 σ ρ1 → ItOk T F1 H1 w1 J items → (k items ρ1).holds Kq1 Ke1 → CLo T F H w σ F1 H1 w1 (lendOf ci) Kq Ke Kq1 Ke1 → R J H1) → twI X tg e σ H R
def lcM (own : List Nat) (body : D → M (Option D)) (items : List D) : M R := fun ρ => if frozenAt ρ own then
  (match lcGo own body items [] ρ with
  | .ok acc ρ' => .ok (.val (.lst acc)) (restore ρ own ρ')
  | _ => .stuck) else .stuck
/-- a clause's tests -/
def twC (X : Cx) (ifs : List Expr) : TT := fun σ H Q => ∀ (pins : List (Addr × Obj)) (s : Shared), Inv X pins σ H s →
    wpAny (model X.prog X.w) X.A (forIn ifs true fun c r => if r = true then do let ok ← isTrue c X.env (eval c X.env); pure (ForInStep.yield ok) else pure (ForInStep.yield r)) (TP X pins σ Q) X.xe s
theorem pts_twC {X : Cx} {ifs : List Expr} : PTs X ifs (twC X ifs) := ⟨fun pins s σ H Q I h => h pins s I⟩
def DC (T : Tb) (X : Cx) (W : WX) (ifs : List Expr) (m : M Bool) : Prop := ∀ F H w σ ρ (Q : Bool → Hp → Prop), Ok T F H w σ ρ → (m ρ).holds (KB T F H w σ Q) (KX T W F H w σ) → twC X ifs σ H Q
abbrev noW : WX := fun _ _ _ _ => False
theorem Le.trans' {F G H : Hp} (a : Le F G) (b : Le G H) : Le F H := fun x o h => b x o (a x o h)
section
variable {T : Tb} {X : Cx} {W : WX} {F H F0 H0 F' H' : Hp} {w w0 w' : Wn} {σ : St} {ρ : En} {a b e e2 o tg : Expr} {es ifs : List Expr} {pos apos p tpos : Pos} {vs : List V} {ds : List D}
theorem dc_nil : DC T X W [] (M.ret true) := fun F H w σ ρ Q O h pins s I => pts_nil.run pins s σ H Q I (h F H w O Sp2.refl)
theorem dc_one {m : M Bool} (h : DT T X W e m) : DC T X W [e] m := fun F H w σ ρ Q O hm pins s I => (pts_one pt_twT).run pins s σ H Q I (h F H w σ ρ Q O hm)
theorem it_of {ci : CI} {m : M (List D)} (h : DI T X W tg e m) (hl : lendOf ci = none) : IT T X W tg e ci m := fun {α} k F H w σ ρ Kq Ke R O hm hk hR => by
  unfold withIt at hm
  rw [hl] at hm
  refine h F H w σ ρ R O (Out.holds_imp (bnd_holds hm) (fun ds ρ1 q F1 H1 w1 J O1 s1 i1 => hR ds F1 H1 w1 ρ1 J Kq Ke O1 i1 q ?_) hk)
  intro F' H' w' σ' ρ' O' s' _
  exact ⟨w', ρ', O', s1.trans s', ⟨fun a z _ => z, fun a z => s1.back z, fun a j z => s1.ownd a j z⟩, fun _ z => z, fun _ z => z⟩
theorem it_slot (c : Ctx T X) {i : Nat} {x : Str} (hN : X.N[i]? = some x) (hv : Vis X.env.scope x) (hd : (x == ("__debug__" : Str)) = false) (hcd : (x == ("__classdict__" : Str)) = false) (m : M (List D)) : IT T X W tg (.Name x pos) (.slot i) m := fun {α} k F H w σ ρ Kq Ke R O hm hk hR => by
  have hm' : (lendM i k ρ).holds Kq Ke := hm
  unfold lendM at hm'
  split at hm'
  · rename_i ds e
    obtain ⟨q, vs, q1, q2, q3, q4, O1⟩ := lend_in O e
    have hd' : dropW w i q = none := by
      unfold dropW
      rw [if_pos q4]
    refine twI_of (pi_list (pe_var hN hv hd hcd)) ⟨_, q1, q, rfl, ⟨vs, .of q2⟩, ?_⟩
    rw [c.K]
    have hk1 : (k ds (ρ.set i none)).holds (fun a ρ' => Kq a (ρ'.set i (some (.lst ds)))) (fun e ρ' => Ke e (ρ'.set i (some (.lst ds)))) := by
      cases ek : k ds (ρ.set i none) with
      | ok a ρ' => rw [ek] at hm'; exact hm'
      | exc e ρ' => rw [ek] at hm'; exact hm'
      | stuck => rw [ek] at hm'; exact hm'.elim
    refine hR ds F H (dropW w i) (ρ.set i none) _ _ _ O1 (it_lent (i := i) q2 hd' q3) hk1 ?_
    intro F' H' w' σ' ρ' O' s' hs
    obtain ⟨m1, m2⟩ := lend_out O Sp2.refl s' O' (by rw [hs i rfl]; exact q1) q4 q2 q3
    refine ⟨_, _, m1, m2, ⟨fun b hb hn => ?_, fun a z => z, fun a j z => .inl (dropW_some z).1⟩, fun _ z => z, fun _ z => z⟩
    have hne : b ≠ q := fun z => by
      subst z
      rcases hn with hn | ⟨j, hn⟩
      · rw [q2] at hn
        cases hn
      · rw [hd'] at hn
        cases hn
    unfold putW dropW
    rw [if_neg hne, if_neg (by rw [hb]; exact fun z => nomatch z)]
    exact hb
  · rename_i d e
    split at hm'
    · rename_i ds ed
      have hv' : (((varM i).bnd takeM).bnd fun d => M.opt (itemsOf d)) ρ = .ok ds ρ := by
        simp only [M.bnd, varM, takeM, e, ed, M.opt]
      refine di_seq (W := W) c (de_var hN hv hd hcd) F H w σ ρ R O ?_
      rw [hv']
      intro F1 H1 w1 J O1 s1 i1
      refine hR ds F1 H1 w1 ρ J Kq Ke O1 i1 hm' ?_
      intro F' H' w' σ' ρ' O' s' _
      exact ⟨w', ρ', O', s1.trans s', ⟨fun a z _ => z, fun a z => s1.back z, fun a j z => s1.ownd a j z⟩, fun _ z => z, fun _ z => z⟩
    · exact hm'.elim
  · exact hm'.elim
/-! ### list comprehensions -/
theorem wipeE_out {i : Nat} : ∀ {own : List Nat} {ρ : En}, i ∉ own → (wipeE ρ own)[i]? = ρ[i]?
  | [], ρ, h => rfl
  | v :: vs, ρ, h => by
    unfold wipeE
    have h' : i ≠ v ∧ i ∉ vs := by simpa using h
    rw [List.getElem?_set_ne (Ne.symm h'.1), wipeE_out h'.2]
theorem wipeE_len : ∀ {own : List Nat} {ρ : En}, (wipeE ρ own).length = ρ.length
  | [], ρ => rfl
  | v :: vs, ρ => by
    unfold wipeE
    rw [List.length_set, wipeE_len]
theorem wipeE_in {i : Nat} : ∀ {own : List Nat} {ρ : En} {x : SV}, i ∈ own → (wipeE ρ own)[i]? = some (some x) → False
  | [], ρ, x, h, e => nomatch h
  | v :: vs, ρ, x, h, e => by
    unfold wipeE at e
    by_cases hv : v = i
    · subst hv
      by_cases hl : v < (wipeE ρ vs).length
      · rw [List.getElem?_set_self hl] at e
        cases e
      · rw [List.getElem?_eq_none (by rw [List.length_set]; omega)] at e
        cases e
    · rw [List.getElem?_set_ne hv] at e
      exact wipeE_in ((List.mem_cons.mp h).resolve_left (Ne.symm hv)) e
theorem ok_wipe {own : List Nat} (O : Ok T F H w σ ρ) : Ok T F H w (L2.wipe σ own) (wipeE ρ own) := ⟨O.sub, O.own, by rw [wipeE_len, wipe_length]; exact O.len, fun i x h => by
  by_cases hi : i ∈ own
  · exact (wipeE_in hi h).elim
  · rw [wipeE_out hi] at h
    rw [wipe_out hi]
    exact O.sl i x h⟩
theorem restore_len {ρ0 : En} : ∀ {own : List Nat} {ρ : En}, (restore ρ0 own ρ).length = ρ.length
  | [], ρ => rfl
  | v :: vs, ρ => by
    unfold restore
    rw [List.length_set, restore_len]
theorem restore_out {ρ0 : En} {i : Nat} : ∀ {own : List Nat} {ρ : En}, i ∉ own → (restore ρ0 own ρ)[i]? = ρ[i]?
  | [], ρ, h => rfl
  | v :: vs, ρ, h => by
    unfold restore
    have h' : i ≠ v ∧ i ∉ vs := by simpa using h
    rw [List.getElem?_set_ne (Ne.symm h'.1), restore_out h'.2]
theorem restore_in {ρ0 : En} {i : Nat} {x : SV} : ∀ {own : List Nat} {ρ : En}, i ∈ own → (restore ρ0 own ρ)[i]? = some (some x) → ρ0[i]? = some (some x)
  | [], ρ, h, e => nomatch h
  | v :: vs, ρ, h, e => by
    unfold restore at e
    by_cases hv : v = i
    · subst hv
      by_cases hl : v < (restore ρ0 vs ρ).length
      · rw [List.getElem?_set_self hl] at e
        cases e0 : ρ0[v]? with
        | none => rw [e0] at e; cases e
        | some y => rw [e0] at e; exact e
      · rw [List.getElem?_eq_none (by rw [List.length_set]; omega)] at e
        cases e
    · rw [List.getElem?_set_ne hv] at e
      exact restore_in ((List.mem_cons.mp h).resolve_left (Ne.symm hv)) e
theorem frozen_get {own : List Nat} {i : Nat} {x : SV} (h : frozenAt ρ own = true) (hi : i ∈ own) (e : ρ[i]? = some (some x)) : ∃ d, x = .dat d := by
  have := List.all_eq_true.mp h i hi
  rw [e] at this
  cases x with
  | fv y =>
    cases y with
    | dat d => exact ⟨d, rfl⟩
    | lst ds => cases this
  | ins c ds => cases this
theorem ok_restore {own : List Nat} {F1 H1 : Hp} {w1 : Wn} {ρ1 : En} (O1 : Ok T F1 H1 w1 σ ρ1) (hf : frozenAt ρ1 own = true) (l : Le F1 F) (O : Ok T F H w (L2.wipe σ own) (wipeE ρ own)) : Ok T F H w σ (restore ρ1 own ρ) := by
  have hl := O.len
  rw [wipeE_len, wipe_length] at hl
  refine ⟨O.sub, O.own, by rw [restore_len]; exact hl, fun i x h => ?_⟩
  by_cases hi : i ∈ own
  · have e := restore_in hi h
    obtain ⟨d, rfl⟩ := frozen_get hf hi e
    obtain ⟨v, q1, q2⟩ := O1.sl i _ e
    exact ⟨v, q1, Rep.mono l d v q2⟩
  · rw [restore_out hi] at h
    have := O.sl i x (by rw [wipeE_out hi]; exact h)
    rw [wipe_out hi] at this
    exact this
/-- what stands by itself is changed -/
theorem tmp_mut {q : Addr} {u : HO} (O : Ok T F H w σ ρ) (s : Sp2 F0 H0 w0 F H w) (h0 : H0 q = none) (hw : w q = none) (hF : F q = none) : Ok T F (upd H q u) w σ ρ ∧ Sp2 F0 H0 w0 F (upd H q u) w := by
  refine ⟨⟨fun b o h => ?_, fun b j h => ⟨(O.own b j h).1, ?_⟩, O.len, fun j y h => ?_⟩, ⟨s.ext, fun b o h h1 => ?_, fun b h => ?_, s.nofr, s.ownd⟩⟩
  · rw [upd_ne (fun z => by rw [z, hF] at h; cases h)]
    exact O.sub b o h
  · rw [upd_ne (fun z => by rw [z, hw] at h; cases h)]
    exact (O.own b j h).2
  · obtain ⟨v, q2, q3⟩ := O.sl j y h
    refine ⟨v, q2, q3.mono (fun _ _ z => z) fun b hb => ⟨hb, fun o z => ?_⟩⟩
    rw [upd_ne (fun z => by rw [z, hw] at hb; cases hb)]
    exact z
  · rw [upd_ne (fun z => by rw [z, h0] at h; cases h)]
    exact s.same b o h h1
  · by_cases hb : b = q
    · subst hb
      rw [upd_same]
      exact fun z => nomatch z
    · rw [upd_ne hb]
      exact s.keep b h
theorem DE.run0 {m : M R} {α : Type} {f : R → M α} {Kq : α → En → Prop} {Q : VK} (h : DE T X W e m) (O : Ok T F H w σ ρ) (hm : (m.bnd f ρ).holds Kq fun _ _ => False)
    (k : ∀ r ρ' F' H' w' v, (f r ρ').holds Kq (fun _ _ => False) → Ok T F' H' w' σ ρ' → Sp2 F H w F' H' w' → ROk T H F' H' w' σ r v → Q v H') : tw X e σ H Q :=
  h F H w σ ρ Q O (Out.holds_imp (bnd_holds hm) (fun r ρ' q F' H' w' v O' s' R' => k r ρ' F' H' w' v q O' s' R') fun x ρ' q => q.elim)
theorem DC.run0 {m : M Bool} {α : Type} {f : Bool → M α} {Kq : α → En → Prop} {Q : Bool → Hp → Prop} (h : DC T X W es m) (O : Ok T F H w σ ρ) (hm : (m.bnd f ρ).holds Kq fun _ _ => False)
    (k : ∀ r ρ' F' H' w', (f r ρ').holds Kq (fun _ _ => False) → Ok T F' H' w' σ ρ' → Sp2 F H w F' H' w' → Q r H') : twC X es σ H Q :=
  h F H w σ ρ Q O (Out.holds_imp (bnd_holds hm) (fun r ρ' q F' H' w' O' s' => k r ρ' F' H' w' q O' s') fun x ρ' q => q.elim)
theorem bnd_assoc {α β γ : Type} (m : M α) (f : α → M β) (g : β → M γ) : (m.bnd f).bnd g = m.bnd fun a => (f a).bnd g := by
  funext ρ
  show (match (match m ρ with | .ok a ρ' => f a ρ' | .exc e ρ' => .exc e ρ' | .stuck => .stuck : Out β) with | .ok a ρ' => g a ρ' | .exc e ρ' => .exc e ρ' | .stuck => .stuck) = (match m ρ with | .ok a ρ' => ((f a).bnd g) ρ' | .exc e ρ' => .exc e ρ' | .stuck => .stuck)
  cases m ρ <;> rfl
/-- what a block's parts are to do, whatever block it is -/
def teB (X : Cx) (scope : Scope) (e : Expr) : TE := fun σ H Q => ∀ (s : Shared) (H0 : Hp) (C : Addr) (cl : List (Str × Addr)) (fp : List Addr), tw (X.blk s H0 scope (compEnvC scope cl C X.env) fp) e σ H Q
def ttB (X : Cx) (scope : Scope) (ifs : List Expr) : TT := fun σ H Q => ∀ (s : Shared) (H0 : Hp) (C : Addr) (cl : List (Str × Addr)) (fp : List Addr), twC (X.blk s H0 scope (compEnvC scope cl C X.env) fp) ifs σ H Q
def tgB (X : Cx) (scope : Scope) (tg : Expr) : TG := fun v σ H Q => ∀ (s : Shared) (H0 : Hp) (C : Addr) (cl : List (Str × Addr)) (fp : List Addr), twG (X.blk s H0 scope (compEnvC scope cl C X.env) fp) tg v σ H Q
theorem lc_t (c : Ctx T X) {scope : Scope} {own : List (Str × Nat)} {ci : CI} {mi : M (List D)} {g : Tg} {mc : M Bool} {me : M R} (ok : BlkOk X.N X.env.scope scope own) (hi : IT T X W tg e2 ci mi)
    (hg : ∀ (s : Shared) (H : Hp) (C : Addr) (cl : List (Str × Addr)) (fp : List Addr), DG T (X.blk s H scope (compEnvC scope cl C X.env) fp) tg g (own.map (·.2)))
    (hc : ∀ (s : Shared) (H : Hp) (C : Addr) (cl : List (Str × Addr)) (fp : List Addr), DC T (X.blk s H scope (compEnvC scope cl C X.env) fp) noW ifs mc)
    (he : ∀ (s : Shared) (H : Hp) (C : Addr) (cl : List (Str × Addr)) (fp : List Addr), DE T (X.blk s H scope (compEnvC scope cl C X.env) fp) noW e me) (hs : ∀ x, foldedSetIterable e2 X.env x = pure x) (hln : ∀ i, lendOf ci = some i → i ∉ own.map (·.2))
    (O : Ok T F H w σ ρ) {Q : VK} (h : ((withIt ci mi fun items => lcM (own.map (·.2)) (fun d => (asgT g d).bnd fun _ => mc.bnd fun k => if k then (me.bnd takeM).bnd fun x => M.ret (some x) else M.ret none) items) ρ).holds (KR T F H w σ Q) (KX T W F H w σ)) :
    tLc (twI X tg e2) (tgB X scope tg) (ttB X scope ifs) (teB X scope e) (own.map (·.2)) σ H Q := by
  show twI X tg e2 σ H fun J H1 => ∀ D, H1 D = none → _
  generalize hown : own.map (·.2) = ow at *
  generalize hbody : (fun d => (asgT g d).bnd fun _ => mc.bnd fun k => if k then (me.bnd takeM).bnd fun x => M.ret (some x) else M.ret none : D → M (Option D)) = body at h
  refine hi _ F H w σ ρ _ _ _ O h (fun _ _ z => z) fun items F1 H1 w1 ρ1 J Kq1 Ke1 O1 i1 h1 cl => ?_
  unfold lcM at h1
  split at h1
  · rename_i hfz
    cases el : lcGo ow body items [] ρ1 with
    | exc x ρ' => rw [el] at h1; exact h1.elim
    | stuck => rw [el] at h1; exact h1.elim
    | ok acc ρE =>
      rw [el] at h1
      have h1' : Kq1 (.val (.lst acc)) (restore ρ1 ow ρE) := h1
      intro q hq
      obtain ⟨O2, s2, hF, hw, _⟩ := newH_ok (o := .lst []) O1 Sp2.refl hq
      refine ⟨fun i m H' => m = items.length - i ∧ i ≤ items.length ∧ ∃ F' w' ρ' ad av, Ok T F' H' w' (L2.wipe σ ow) (wipeE ρ' ow) ∧ Sp2 F1 H1 w1 F' H' w' ∧ H' q = some (.lst av) ∧ w' q = none ∧ F' q = none ∧ Reps T F' ad av ∧
        (lcGo ow body (items.drop i) ad ρ').holds (fun a r => a = acc ∧ r = ρE) (fun _ _ => False), ⟨_, rfl, Nat.zero_le _, F1, w1, ρ1, [], [], ok_wipe O2, s2, upd_same, hw, hF, rfl, by rw [List.drop_zero, el]; exact ⟨rfl, rfl⟩⟩, ?_⟩
      rintro i m H' ⟨rfl, hi', F', w', ρ', ad, av, O', s', hq', hw', hF', rr, hgo⟩
      obtain ⟨k1, k2⟩ := i1 i F' H' w' _ _ O' s'
      by_cases hlt : i < items.length
      · obtain ⟨kg, ky⟩ := k1 _ (List.getElem?_eq_getElem hlt)
        rw [List.drop_eq_getElem_cons hlt] at hgo
        refine .inr ⟨kg, fun H'' => ∃ F' w' ρ' ad av, Ok T F' H'' w' (L2.wipe σ ow) (wipeE ρ' ow) ∧ Sp2 F1 H1 w1 F' H'' w' ∧ H'' q = some (.lst av) ∧ w' q = none ∧ F' q = none ∧ Reps T F' ad av ∧
          (lcGo ow body (items.drop (i + 1)) ad ρ').holds (fun a r => a = acc ∧ r = ρE) (fun _ _ => False), fun H'' z => ⟨_, by omega, rfl, hlt, z⟩, fun x H3 y => ?_⟩
        obtain ⟨F3, O3, s3, r3⟩ := ky x H3 y
        have hgo' : ((body items[i]).bnd (fun o => match o with
          | some d => if sz (ad.length + 1) then lcGo ow body (items.drop (i + 1)) (ad ++ [d]) else fun _ => .stuck
          | none => lcGo ow body (items.drop (i + 1)) ad) (wipeE ρ' ow)).holds (fun a r => a = acc ∧ r = ρE) (fun _ _ => False) := hgo
        have hb : body items[i] = (asgT g items[i]).bnd fun _ => mc.bnd fun k => if k then (me.bnd takeM).bnd fun x => M.ret (some x) else M.ret none := by rw [← hbody]
        rw [hb, bnd_assoc] at hgo'
        intro s H0 C cl' fp
        refine hg s H0 C cl' fp F3 H3 w' _ _ _ x _ O3 r3 (Out.holds_imp (bnd_holds hgo') (fun _ ρ4 q4 w4 σ4 O4 s4 k4 => ⟨?_, ?_⟩) fun _ _ z => z)
        · rw [k4.wipe]
          exact (wipe_kp (σ := σ)).wipe
        · have hkeep : ∀ {F5 H5 : Hp} {w5 : Wn}, Sp2 F3 H3 w4 F5 H5 w5 → H5 q = some (.lst av) ∧ w5 q = none ∧ F5 q = none ∧ Sp2 F1 H1 w1 F5 H5 w5 := fun {F5 H5 w5} s5 => by
            have t := (s3.trans s4).trans s5
            exact ⟨t.same q _ hq' hw', t.nw (some_ne hq') hw', t.nofr q (some_ne hq') hw' hF', s'.trans t⟩
          have hwipe : L2.wipe σ4 ow = L2.wipe σ ow := by
            rw [k4.wipe]
            exact (wipe_kp (σ := σ)).wipe
          rw [bnd_assoc] at q4
          intro s' H0' C' cl'' fp'
          refine (hc s' H0' C' cl'' fp').run0 O4 q4 fun b ρ5 F5 H5 w5 q5 O5 s5 => ?_
          cases b with
          | false =>
            rw [if_neg Bool.false_ne_true] at q5 ⊢
            obtain ⟨e1, e2, e3, e4⟩ := hkeep s5
            refine ⟨F5, w5, ρ5, ad, av, ?_, e4, e1, e2, e3, Reps.mono ((s3.ext.trans' s4.ext).trans' s5.ext) ad av rr, q5⟩
            rw [← hwipe]
            exact ok_wipe O5
          | true =>
            rw [if_pos rfl] at q5 ⊢
            rw [bnd_assoc, bnd_assoc] at q5
            intro s'' H0'' C'' cl''' fp''
            refine (he s'' H0'' C'' cl''' fp'').run0 O5 q5 fun r ρ6 F6 H6 w6 v q6 O6 s6 R6 => ?_
            obtain ⟨d, ρ7, F7, w7, q7, O7, s7, r7⟩ := take_ok O6 s6 R6 (bnd_holds q6)
            have q7' : ((if sz (ad.length + 1) then lcGo ow body (items.drop (i + 1)) (ad ++ [d]) else fun _ => .stuck) ρ7).holds (fun a r => a = acc ∧ r = ρE) (fun _ _ => False) := q7
            split at q7'
            · rename_i hz
              obtain ⟨e1, e2, e3, e4⟩ := hkeep (s5.trans s7)
              have hl := rr.len
              have := sz_le hz
              refine ⟨av, e1, by omega, ?_⟩
              obtain ⟨m1, m2⟩ := tmp_mut (u := .lst (av ++ [v])) O7 e4 hq e2 e3
              have mm := Reps.mono (((s3.ext.trans' s4.ext).trans' s5.ext).trans' s7.ext) ad av rr
              refine ⟨F7, w7, ρ7, ad ++ [d], av ++ [v], ?_, m2, upd_same, e2, e3, mm.append ⟨v, [], rfl, r7, rfl⟩, q7'⟩
              rw [← hwipe]
              exact ok_wipe m1
            · exact q7'.elim
      · have e : i = items.length := by omega
        subst e
        refine .inl ⟨k2 (Nat.le_refl _), ?_⟩
        rw [List.drop_length] at hgo
        obtain ⟨rfl, rfl⟩ := (show ad = acc ∧ ρ' = ρE from hgo)
        have O'' := ok_restore O1 hfz s'.ext O'
        obtain ⟨w'', ρ'', c1, c2, ⟨c3, cb, _⟩, c4, _⟩ := cl F' H' w' σ _ O'' s' (fun _ _ => rfl)
        exact c4 _ h1' F' H' w'' _ c1 c2 ⟨q, av, rfl, cb q hq, c3 q hw' (.inl hq), hF', hq', rr⟩
  · exact h1.elim
theorem de_lc (c : Ctx T X) {scope : Scope} {own : List (Str × Nat)} {ci : CI} {mi : M (List D)} {g : Tg} {mc : M Bool} {me : M R} (ok : BlkOk X.N X.env.scope scope own) (hi : IT T X W tg e2 ci mi)
    (hg : ∀ (s : Shared) (H : Hp) (C : Addr) (cl : List (Str × Addr)) (fp : List Addr), DG T (X.blk s H scope (compEnvC scope cl C X.env) fp) tg g (own.map (·.2)))
    (hc : ∀ (s : Shared) (H : Hp) (C : Addr) (cl : List (Str × Addr)) (fp : List Addr), DC T (X.blk s H scope (compEnvC scope cl C X.env) fp) noW ifs mc)
    (he : ∀ (s : Shared) (H : Hp) (C : Addr) (cl : List (Str × Addr)) (fp : List Addr), DE T (X.blk s H scope (compEnvC scope cl C X.env) fp) noW e me) (hs : ∀ x, foldedSetIterable e2 X.env x = pure x) (hln : ∀ i, lendOf ci = some i → i ∉ own.map (·.2)) : DE T X W (.ListComp e [⟨tg, e2, ifs, 0⟩] scope pos) (withIt ci mi fun items => lcM (own.map (·.2)) (fun d => (asgT g d).bnd fun _ => mc.bnd fun k => if k then (me.bnd takeM).bnd fun x => M.ret (some x) else M.ret none) items) := fun F H w σ ρ Q O h =>
  tw_of (pe_lc (te := teB X scope e) (tt := ttB X scope ifs) (g := tgB X scope tg)
    c.calm c.nd pi_twI ok (fun s H0 C cl fp => ⟨fun pins s' σ H v u Q I r h => h s H0 C cl fp pins s' u I r⟩) (fun s H0 C cl fp => ⟨fun pins s' σ H Q I h => h s H0 C cl fp pins s' I⟩) (fun s H0 C cl fp => ⟨fun pins s' σ H Q I h => h s H0 C cl fp pins s' I⟩) hs) (lc_t c ok hi hg hc he hs hln O h)
end
end Dv
end
section
set_option Elab.async false
set_option maxRecDepth 100000
set_option linter.all false
/-! Statements -/
namespace Dv
open PySem PySem.Spec L2

/-- what is given back: a list of one's own is new, or was a slot's of the def itself -/
def RtOk (T : Tb) (np : Nat) (H0 : Hp) (w0 : Wn) (F H : Hp) (w : Wn) : FV → V → Prop
  | .dat d, v => Rep T F d v
  | .lst ds, v => ∃ a vs, v = .ref a ∧ (H0 a = none ∨ ∃ j, w0 a = some j ∧ np ≤ j) ∧ w a = none ∧ F a = none ∧ H a = some (.lst vs) ∧ Reps T F ds vs
/-- what is wanted behind a statement -/
def KF (T : Tb) (np : Nat) (F H : Hp) (w : Wn) (σ : St) (as : List Nat) (D : Ends) : Fl → En → Prop := fun f ρ' => ∀ F' H' w' σ', Ok T F' H' w' σ' ρ' → Sp2 F H w F' H' w' → Kp as σ σ' → match f with
  | .nx => D.nx σ' H'
  | .bk => D.bk σ' H'
  | .ct => D.ct σ' H'
  | .rt x => ∀ v, RtOk T np H w F' H' w' x v → D.rt v H'
def KXS (T : Tb) (W : WX) (F H : Hp) (w : Wn) (σ : St) (as : List Nat) : Ex → En → Prop := fun x ρ' => ∀ F' H' w' σ', Ok T F' H' w' σ' ρ' → Sp2 F H w F' H' w' → Kp as σ σ' → ∀ cls d, ExOk T F' x cls d → W cls d σ' H'
/-- a statement does m, storing to the slots as -/
def DS (T : Tb) (X : Cx) (W : WX) (np : Nat) (as : List Nat) (st : Stmt) (m : M Fl) : Prop := ∀ F H w σ ρ (D : Ends), Ok T F H w σ ρ → (m ρ).holds (KF T np F H w σ as D) (KXS T W F H w σ as) → twS X st D σ H
def DSs (T : Tb) (X : Cx) (W : WX) (np : Nat) (as : List Nat) (st : List Stmt) (m : M Fl) : Prop := ∀ F H w σ ρ (D : Ends), Ok T F H w σ ρ → (m ρ).holds (KF T np F H w σ as D) (KXS T W F H w σ as) → twSs X st D σ H
/-- what a name that is stored to must be -/
structure NmOk (X : Cx) (i : Nat) (x : Str) : Prop where
  at_ : X.N[i]? = some x
  loc : Loc X.env.scope x
  fn : X.fn x = true ∨ X.env.scope.names.lookup x = some .local
theorem asgT_noexc (g : Tg) : ∀ (d : Dv.D) (ρ : En) (e : Ex) (ρ' : En), asgT g d ρ = .exc e ρ' → False := by
  refine @Tg.rec (fun g => ∀ (d : Dv.D) (ρ : En) (e : Ex) (ρ' : En), asgT g d ρ = .exc e ρ' → False) (fun gs => ∀ (ds : List Dv.D) (ρ : En) (e : Ex) (ρ' : En), asgTs gs ds ρ = .exc e ρ' → False) ?_ ?_ ?_ ?_ g
  · intro i d ρ e ρ' z
    cases z
  · intro ts ih d ρ e ρ' z
    cases d with
    | tup ds => exact ih ds ρ e ρ' z
    | _ => cases z
  · intro ds ρ e ρ' z
    cases ds with
    | nil => cases z
    | cons _ _ => cases z
  · intro t ts ih1 ih2 ds ρ e ρ' z
    cases ds with
    | nil => cases z
    | cons d ds =>
      have z' : ((asgT t d).bnd fun _ => asgTs ts ds) ρ = .exc e ρ' := z
      simp only [M.bnd] at z'
      split at z'
      · exact ih2 _ _ _ _ z'
      · rename_i e1
        exact ih1 _ _ _ _ (by rw [e1])
      · cases z'
section
variable {T : Tb} {X : Cx} {W : WX} {F H F0 H0 F' H' F1 H1 : Hp} {w w0 w' w1 : Wn} {σ σ1 : St} {ρ : En} {a b e e2 o tg : Expr} {es ifs : List Expr} {pos apos p tpos : Pos} {vs : List V} {ds : List D} {np : Nat} {as : List Nat} {st : Stmt} {ss : List Stmt}
theorem RtOk.back {x : FV} {v : V} (s : Sp2 F0 H0 w0 F H w) (h : RtOk T np H w F' H' w' x v) : RtOk T np H0 w0 F' H' w' x v := by
  cases x with
  | dat d => exact h
  | lst ds =>
    obtain ⟨q, us, e, h1, r⟩ := h
    refine ⟨q, us, e, ?_, r⟩
    rcases h1 with h1 | ⟨j, h1, h2⟩
    · exact .inl (s.back h1)
    · rcases s.ownd q j h1 with z | z
      · exact .inr ⟨j, z, h2⟩
      · exact .inl z
theorem KF.back {D : Ends} {f : Fl} {ρ' : En} (s : Sp2 F H w F1 H1 w1) (k : Kp as σ σ1) (h : KF T np F H w σ as D f ρ') : KF T np F1 H1 w1 σ1 as D f ρ' := fun F' H' w' σ' O' s' k' => by
  have := h F' H' w' σ' O' (s.trans s') (k.trans k')
  cases f with
  | nx => exact this
  | bk => exact this
  | ct => exact this
  | rt x => exact fun v r => this v (r.back s)
theorem KXS.back {x : Ex} {ρ' : En} (s : Sp2 F H w F1 H1 w1) (k : Kp as σ σ1) (h : KXS T W F H w σ as x ρ') : KXS T W F1 H1 w1 σ1 as x ρ' := fun F' H' w' σ' O' s' k' => h F' H' w' σ' O' (s.trans s') (k.trans k')
theorem KXS.ex {x : Ex} {ρ' : En} (h : KXS T W F H w σ as x ρ') : KX T W F H w σ x ρ' := fun F' H' w' O' s' => h F' H' w' σ O' s' Kp.refl
/-- an expression within a statement -/
theorem DE.runS {m : M R} {α : Type} {f : R → M α} {Kq : α → En → Prop} {Q : VK} (h : DE T X W e m) (O : Ok T F H w σ ρ) (s : Sp2 F0 H0 w0 F H w) (hm : (m.bnd f ρ).holds Kq (KXS T W F0 H0 w0 σ as))
    (k : ∀ r ρ' F' H' w' v, (f r ρ').holds Kq (KXS T W F0 H0 w0 σ as) → Ok T F' H' w' σ ρ' → Sp2 F H w F' H' w' → ROk T H F' H' w' σ r v → Q v H') : tw X e σ H Q :=
  h F H w σ ρ Q O (Out.holds_imp (bnd_holds hm) (fun r ρ' q F' H' w' v O' s' R' => k r ρ' F' H' w' v q O' s' R') fun x ρ' q => (q.back s Kp.refl).ex)
theorem DT.runS {m : M Bool} {α : Type} {f : Bool → M α} {Kq : α → En → Prop} {Q : Bool → Hp → Prop} (h : DT T X W e m) (O : Ok T F H w σ ρ) (s : Sp2 F0 H0 w0 F H w) (hm : (m.bnd f ρ).holds Kq (KXS T W F0 H0 w0 σ as))
    (k : ∀ r ρ' F' H' w', (f r ρ').holds Kq (KXS T W F0 H0 w0 σ as) → Ok T F' H' w' σ ρ' → Sp2 F H w F' H' w' → Q r H') : twT X e σ H Q :=
  h F H w σ ρ Q O (Out.holds_imp (bnd_holds hm) (fun r ρ' q F' H' w' O' s' => k r ρ' F' H' w' q O' s') fun x ρ' q => (q.back s Kp.refl).ex)
theorem DL.runS {α β : Type} {rel : Hp → Hp → Hp → Wn → St → α → List V → Prop} {m : M α} {f : α → M β} {Kq : β → En → Prop} {Q : List V → Hp → Prop} (h : DL T rel X W es m) (O : Ok T F H w σ ρ) (s : Sp2 F0 H0 w0 F H w) (hm : (m.bnd f ρ).holds Kq (KXS T W F0 H0 w0 σ as))
    (k : ∀ r ρ' F' H' w' v, (f r ρ').holds Kq (KXS T W F0 H0 w0 σ as) → Ok T F' H' w' σ ρ' → Sp2 F H w F' H' w' → rel H F' H' w' σ r v → Q v H') : twA X es σ H Q :=
  h F H w σ ρ Q O (Out.holds_imp (bnd_holds hm) (fun r ρ' q F' H' w' v O' s' R' => k r ρ' F' H' w' v q O' s' R') fun x ρ' q => (q.back s Kp.refl).ex)
theorem DS.go {m : M Fl} {D : Ends} (h : DS T X W np as st m) (O : Ok T F H w σ1 ρ) (s : Sp2 F0 H0 w0 F H w) (k : Kp as σ σ1) (hm : (m ρ).holds (KF T np F0 H0 w0 σ as D) (KXS T W F0 H0 w0 σ as)) : twS X st D σ1 H :=
  h F H w σ1 ρ D O (Out.holds_imp hm (fun f ρ' q => q.back s k) fun x ρ' q => q.back s k)
theorem DSs.go {m : M Fl} {D : Ends} (h : DSs T X W np as ss m) (O : Ok T F H w σ1 ρ) (s : Sp2 F0 H0 w0 F H w) (k : Kp as σ σ1) (hm : (m ρ).holds (KF T np F0 H0 w0 σ as D) (KXS T W F0 H0 w0 σ as)) : twSs X ss D σ1 H :=
  h F H w σ1 ρ D O (Out.holds_imp hm (fun f ρ' q => q.back s k) fun x ρ' q => q.back s k)
theorem ds_pass : DS T X W np as (.Pass pos) (M.ret .nx) := fun F H w σ ρ D O h => twS_of ps_pass (h F H w σ O Sp2.refl Kp.refl)
theorem ds_brk : DS T X W np as (.Break pos) (M.ret .bk) := fun F H w σ ρ D O h => twS_of ps_break (h F H w σ O Sp2.refl Kp.refl)
theorem ds_cont : DS T X W np as (.Continue pos) (M.ret .ct) := fun F H w σ ρ D O h => twS_of ps_continue (h F H w σ O Sp2.refl Kp.refl)
theorem ds_retN : DS T X W np as (.Return none pos) (M.ret (.rt (.dat .non))) := fun F H w σ ρ D O h => twS_of ps_retN (h F H w σ O Sp2.refl Kp.refl .non rfl)
theorem ds_expr {m : M R} (he : DE T X W e m) (hs : swapsWith e none pos.line X.env = pure false) : DS T X W np as (.Expr e pos) (m.bnd fun _ => M.ret .nx) := fun F H w σ ρ D O h => by
  refine twS_of (ps_expr pe_tw hs) ?_
  exact he.runS O Sp2.refl h fun r ρ1 F1 H1 w1 v h1 O1 s1 R1 => h1 F1 H1 w1 σ O1 s1 Kp.refl
theorem give_ok {r : R} {v : V} {K : FV → En → Prop} {E : Ex → En → Prop} (O : Ok T F H w σ ρ) (s : Sp2 F0 H0 w0 F H w) (h : ROk T H0 F H w σ r v) (hk : (giveM np r ρ).holds K E) :
    ∃ x ρ' F' w', K x ρ' ∧ Ok T F' H w' σ ρ' ∧ Sp2 F0 H0 w0 F' H w' ∧ RtOk T np H0 w0 F' H w' x v := by
  cases r with
  | val x =>
    refine ⟨x, ρ, F, w, hk, O, s, ?_⟩
    cases x with
    | dat d => exact h
    | lst ds =>
      obtain ⟨q, us, e, h1, r⟩ := h
      exact ⟨q, us, e, .inl h1, r⟩
  | slot i =>
    have h' : σ[i]? = some (some v) := h
    unfold giveM at hk
    dsimp only at hk
    split at hk
    · rename_i d e
      obtain ⟨u, q1, q2⟩ := O.sl i _ e
      rw [h'] at q1
      cases q1
      exact ⟨_, ρ, F, w, hk, O, s, q2⟩
    · rename_i ds e
      split at hk
      · obtain ⟨u, q1, q2, q3, q4⟩ := freeze_ok O s e (fun c ds z => nomatch z)
        rw [h'] at q1
        cases q1
        exact ⟨_, _, _, _, hk, q2, q3, q4⟩
      · rename_i hnp
        obtain ⟨q, us, q1, q2, q3, q4, O1⟩ := lend_in O e
        rw [h'] at q1
        cases q1
        have hd : dropW w i q = none := by
          unfold dropW
          rw [if_pos q4]
        refine ⟨_, _, F, dropW w i, hk, O1, ⟨s.ext, s.same, s.keep, s.nofr, fun b j z => s.ownd b j (dropW_some z).1⟩, q, us, rfl, ?_, hd, (O.own q i q4).1, q2, q3⟩
        rcases s.ownd q i q4 with z | z
        · exact .inr ⟨i, z, by omega⟩
        · exact .inl z
    · exact hk.elim
theorem ds_ret {m : M R} (he : DE T X W e m) : DS T X W np as (.Return (some e) pos) ((m.bnd (giveM np)).bnd fun x => M.ret (.rt x)) := fun F H w σ ρ D O h => by
  refine twS_of (ps_ret pe_tw) ?_
  refine he.runS O Sp2.refl (bnd_holds h) fun r ρ1 F1 H1 w1 v h1 O1 s1 R1 => ?_
  obtain ⟨x, ρ2, F2, w2, h2, O2, s2, r2⟩ := give_ok O1 s1 R1 h1
  exact h2 F2 H1 w2 σ O2 s2 Kp.refl v r2
theorem ds_set (c : Ctx T X) {m : M R} {i : Nat} {x : Str} (hn : NmOk X i x) (ha : i ∈ as) (he : DE T X W e m) (hs : swapsWith e (some (.Name x p)) pos.line X.env = pure false) : DS T X W np as (.Assign [.Name x p] e pos) ((m.bnd (storeM i)).bnd fun _ => M.ret .nx) := fun F H w σ ρ D O h => by
  refine fun pins s I => (ps_set c.nd hn.at_ hn.loc (pe_tw (e := e)) hs hn.fn).run pins s σ H D I ?_
  have hlt : i < σ.length := by rw [I.len]; exact (List.getElem?_eq_some_iff.mp hn.at_).1
  refine he.runS O Sp2.refl (bnd_holds h) fun r ρ1 F1 H1 w1 v h1 O1 s1 R1 => ?_
  obtain ⟨ρ2, F2, w2, h2, O2, s2⟩ := store_ok O1 s1 R1 hlt h1
  exact h2 F2 H1 w2 _ O2 s2 (Kp.set ha)
/-- name = [..] on one line -/
theorem ds_setLc (c : Ctx T X) {i : Nat} {x : Str} {scope : Scope} {own : List (Str × Nat)} {ci : CI} {mi : M (List D)} {g : Tg} {mc : M Bool} {me : M R} (hn : NmOk X i x) (hxl : X.env.scope.names.lookup x = some .local) (ha : i ∈ as)
    (hsw : swapsWith (.ListComp e [⟨tg, e2, ifs, 0⟩] scope pos) (some (.Name x p)) apos.line X.env = pure true) (ok : BlkOk X.N X.env.scope scope own) (hi : IT T X W tg e2 ci mi)
    (hg : ∀ (s : Shared) (H : Hp) (C : Addr) (cl : List (Str × Addr)) (fp : List Addr), DG T (X.blk s H scope (compEnvC scope cl C X.env) fp) tg g (own.map (·.2)))
    (hc : ∀ (s : Shared) (H : Hp) (C : Addr) (cl : List (Str × Addr)) (fp : List Addr), DC T (X.blk s H scope (compEnvC scope cl C X.env) fp) noW ifs mc)
    (he : ∀ (s : Shared) (H : Hp) (C : Addr) (cl : List (Str × Addr)) (fp : List Addr), DE T (X.blk s H scope (compEnvC scope cl C X.env) fp) noW e me) (hs : ∀ x, foldedSetIterable e2 X.env x = pure x) (hln : ∀ i, lendOf ci = some i → i ∉ own.map (·.2)) :
    DS T X W np as (.Assign [.Name x p] (.ListComp e [⟨tg, e2, ifs, 0⟩] scope pos) apos) (((withIt ci mi fun items => lcM (own.map (·.2)) (fun d => (asgT g d).bnd fun _ => mc.bnd fun k => if k then (me.bnd takeM).bnd fun x => M.ret (some x) else M.ret none) items).bnd (storeM i)).bnd fun _ => M.ret .nx) := fun F H w σ ρ D O h => by
  refine fun pins s I => (ps_setLc (te := teB X scope e) (tt := ttB X scope ifs) (g := tgB X scope tg) c.calm c.nd hn.at_ hxl hsw pi_twI ok (fun s H0 C cl fp => ⟨fun pins s' σ H v u Q I r h => h s H0 C cl fp pins s' u I r⟩) (fun s H0 C cl fp => ⟨fun pins s' σ H Q I h => h s H0 C cl fp pins s' I⟩) (fun s H0 C cl fp => ⟨fun pins s' σ H Q I h => h s H0 C cl fp pins s' I⟩) hs).run pins s σ H D I ?_
  have hlt : i < σ.length := by rw [I.len]; exact (List.getElem?_eq_some_iff.mp hn.at_).1
  refine lc_t (W := W) c ok hi hg hc he hs hln O (Q := fun v H' => D.nx (σ.set i (some v)) H') ?_
  refine Out.holds_imp (bnd_holds (bnd_holds h)) (fun r ρ1 h1 F1 H1 w1 v O1 s1 R1 => ?_) fun x ρ' q => q.ex
  obtain ⟨ρ2, F2, w2, h2, O2, s2⟩ := store_ok O1 s1 R1 hlt h1
  exact h2 F2 H1 w2 _ O2 s2 (Kp.set ha)
theorem ds_setT (c : Ctx T X) {m : M R} {g : Tg} (hg : DG T X tg g as) (he : DE T X W e m) (hs : swapsWithSole [tg] e pos.line X.env = pure false) (hw : swappedStores [tg] e X.env = pure none) (h1 : (assignEach [tg] X.env).map (·.2) = [assign tg X.env]) :
    DS T X W np as (.Assign [tg] e pos) (((m.bnd takeM).bnd (asgT g)).bnd fun _ => M.ret .nx) := fun F H w σ ρ D O h => by
  refine twS_of (ps_asg pe_tw pg_twG hs hw h1) ?_
  have h' := bnd_holds h
  rw [bnd_assoc] at h'
  refine he.runS O Sp2.refl h' fun r ρ1 F1 H1 w1 v h1 O1 s1 R1 => ?_
  obtain ⟨d, ρ2, F2, w2, h2, O2, s2, r2⟩ := take_ok O1 s1 R1 (bnd_holds h1)
  refine hg F2 H1 w2 σ ρ2 d v D.nx O2 r2 ?_
  cases ez : asgT g d ρ2 with
  | stuck => rw [ez] at h2; exact h2
  | exc e ρ' => exact (asgT_noexc g d ρ2 e ρ' ez).elim
  | ok _ ρ3 =>
    rw [ez] at h2
    intro w3 σ3 O3 s3 k3
    exact h2 F2 H1 w3 σ3 O3 (s2.trans s3) k3
theorem asg2 {i j : Nat} {K : Unit → En → Prop} {E : Ex → En → Prop} (h : (asgEach [i, j] ds ρ).holds K E) : ∃ d f, ds = [d, f] ∧ K () ((ρ.set i (some (.dat d))).set j (some (.dat f))) := by
  match ds, h with
  | [d, f], h => exact ⟨d, f, rfl, h⟩
theorem asg3 {i j k : Nat} {K : Unit → En → Prop} {E : Ex → En → Prop} (h : (asgEach [i, j, k] ds ρ).holds K E) : ∃ d f g, ds = [d, f, g] ∧ K () (((ρ.set i (some (.dat d))).set j (some (.dat f))).set k (some (.dat g))) := by
  match ds, h with
  | [d, f, g], h => exact ⟨d, f, g, rfl, h⟩
theorem ds_par2 (c : Ctx T X) {i j : Nat} {x y : Str} {px py pt : Pos} {kt k2 pt2} {ms : M (List D)} (hi : X.N[i]? = some x) (hj : X.N[j]? = some y) (hij : i ≠ j) (hx : X.env.scope.names.lookup x = some .local) (hy : X.env.scope.names.lookup y = some .local) (ha : DL T (RepA T) X W [a, b] ms)
    (hw : swappedStores [.Tuple [.Name x px, .Name y py] kt pt] (.Tuple [a, b] k2 pt2) X.env = pure (some [x, y])) (hia : i ∈ as) (hja : j ∈ as) :
    DS T X W np as (.Assign [.Tuple [.Name x px, .Name y py] kt pt] (.Tuple [a, b] k2 pt2) pos) ((ms.bnd (asgEach [i, j])).bnd fun _ => M.ret .nx) := fun F H w σ ρ D O h => by
  refine fun pins s I => (ps_par c.calm c.nd hi hj hij hx hy pa_twA hw).run pins s σ H D I ?_
  have hlt : i < σ.length := by rw [I.len]; exact (List.getElem?_eq_some_iff.mp hi).1
  have hlt2 : j < σ.length := by rw [I.len]; exact (List.getElem?_eq_some_iff.mp hj).1
  refine ha.runS O Sp2.refl (bnd_holds h) fun ds ρ1 F1 H1 w1 vs h1 O1 s1 R1 => ?_
  obtain ⟨d, f, rfl, h2⟩ := asg2 h1
  obtain ⟨v, _, rfl, r1, u, _, rfl, r2, rfl⟩ := R1
  refine ⟨v, u, rfl, ?_⟩
  obtain ⟨w2, O2, s2⟩ := put_ok (x := .dat d) O1 s1 r1 hlt
  obtain ⟨w3, O3, s3⟩ := put_ok (x := .dat f) O2 s2 r2 (by rw [List.length_set]; exact hlt2)
  exact h2 F1 H1 w3 _ O3 s3 ((Kp.set hia).trans (Kp.set hja))
theorem ds_par3 (c : Ctx T X) {i j l : Nat} {x y z : Str} {a b d : Expr} {px py pz pt : Pos} {kt k2 pt2} {ms : M (List D)} (hi : X.N[i]? = some x) (hj : X.N[j]? = some y) (hl : X.N[l]? = some z) (hij : i ≠ j) (hil : i ≠ l) (hjl : j ≠ l)
    (hx : X.env.scope.names.lookup x = some .local) (hy : X.env.scope.names.lookup y = some .local) (hz : X.env.scope.names.lookup z = some .local) (ha : DL T (RepA T) X W [a, b, d] ms)
    (hw : swappedStores [.Tuple [.Name x px, .Name y py, .Name z pz] kt pt] (.Tuple [a, b, d] k2 pt2) X.env = pure (some [x, y, z])) (hia : i ∈ as) (hja : j ∈ as) (hla : l ∈ as) :
    DS T X W np as (.Assign [.Tuple [.Name x px, .Name y py, .Name z pz] kt pt] (.Tuple [a, b, d] k2 pt2) pos) ((ms.bnd (asgEach [i, j, l])).bnd fun _ => M.ret .nx) := fun F H w σ ρ D O h => by
  refine fun pins s I => (ps_par3 c.calm c.nd hi hj hl hij hil hjl hx hy hz pa_twA hw).run pins s σ H D I ?_
  have hlt : i < σ.length := by rw [I.len]; exact (List.getElem?_eq_some_iff.mp hi).1
  have hlt2 : j < σ.length := by rw [I.len]; exact (List.getElem?_eq_some_iff.mp hj).1
  have hlt3 : l < σ.length := by rw [I.len]; exact (List.getElem?_eq_some_iff.mp hl).1
  refine ha.runS O Sp2.refl (bnd_holds h) fun ds ρ1 F1 H1 w1 vs h1 O1 s1 R1 => ?_
  obtain ⟨d, f, g, rfl, h2⟩ := asg3 h1
  obtain ⟨v, _, rfl, r1, u, _, rfl, r2, t, _, rfl, r3, rfl⟩ := R1
  refine ⟨v, u, t, rfl, ?_⟩
  obtain ⟨w2, O2, s2⟩ := put_ok (x := .dat d) O1 s1 r1 hlt
  obtain ⟨w3, O3, s3⟩ := put_ok (x := .dat f) O2 s2 r2 (by rw [List.length_set]; exact hlt2)
  obtain ⟨w4, O4, s4⟩ := put_ok (x := .dat g) O3 s3 r3 (by rw [List.length_set, List.length_set]; exact hlt3)
  exact h2 F1 H1 w4 _ O4 s4 (((Kp.set hia).trans (Kp.set hja)).trans (Kp.set hla))
theorem varM_holds {α : Type} {i : Nat} {f : R → M α} {Kq : α → En → Prop} {Ke : Ex → En → Prop} (O : Ok T F H w σ ρ) (h : ((varM i).bnd f ρ).holds Kq Ke) : (f (.slot i) ρ).holds Kq Ke ∧ ∃ y v, ρ[i]? = some (some y) ∧ σ[i]? = some (some v) ∧ SvOk T F H w i y v := by
  have h' := bnd_holds h
  unfold varM at h'
  split at h'
  · rename_i y e
    obtain ⟨v, e1, e2⟩ := O.sl i y e
    exact ⟨h', y, v, e, e1, e2⟩
  · exact h'.elim
/-! ### op= -/
theorem iop_ok {o : Operator} {i j : Int} {z : FV} {Q : VK} (h : ibo o (.int i) (.int j) = some z) (q : ∀ d, z = .dat (.int d) → Q (.int d) H) : rU X (inplaceOp o) (.int i) (.int j) H Q := by
  unfold ibo at h
  cases o with
  | Add => cases h; exact rU_of iop_add ⟨_, _, rfl, rfl, q _ rfl⟩
  | Sub => cases h; exact rU_of iop_sub ⟨_, _, rfl, rfl, q _ rfl⟩
  | Mult =>
    simp only [bo] at h
    split at h <;> cases h
    rename_i hm
    rcases mulOk_ok hm with hm | hm
    · exact rU_of iop_mul ⟨_, _, rfl, rfl, hm, q _ rfl⟩
    · exact rU_of (opI (C := CMulW) fun _ _ _ _ _ _ _ hc q => PyProof.Rows.imul_int q hc.ok) ⟨_, _, rfl, rfl, hm, q _ rfl⟩
  | FloorDiv =>
    simp only [bo] at h
    split at h <;> cases h
    rename_i hm
    exact rU_of iop_fdiv ⟨_, _, rfl, rfl, (by simp only [CDiv, CPow, CShl, Bool.and_eq_true, decide_eq_true_eq] at hm ⊢; omega), q _ rfl⟩
  | Mod =>
    simp only [bo] at h
    split at h <;> cases h
    rename_i hm
    exact rU_of iop_mod ⟨_, _, rfl, rfl, (by simpa using hm), q _ rfl⟩
  | LShift =>
    simp only [bo] at h
    split at h <;> cases h
    rename_i hm
    exact rU_of iop_shlW ⟨_, _, rfl, rfl, (by simp only [CDiv, CPow, CShl, Bool.and_eq_true, decide_eq_true_eq] at hm ⊢; omega), q _ rfl⟩
  | RShift =>
    simp only [bo] at h
    split at h <;> cases h
    rename_i hm
    exact rU_of iop_shr ⟨_, _, rfl, rfl, (by simpa using hm), q _ rfl⟩
  | BitAnd => cases h; exact rU_of iop_and ⟨_, _, rfl, rfl, q _ rfl⟩
  | BitOr => cases h; exact rU_of iop_or ⟨_, _, rfl, rfl, q _ rfl⟩
  | BitXor => cases h; exact rU_of iop_xor ⟨_, _, rfl, rfl, q _ rfl⟩
  | _ => cases h
theorem ibo_int {o : Operator} {i j : Int} {z : FV} (h : ibo o (.int i) (.int j) = some z) : ∃ d, z = .dat (.int d) := by
  unfold ibo at h
  cases o <;> simp only [bo] at h <;> first
    | exact ⟨_, (Option.some.inj h).symm⟩
    | (split at h <;> first | exact ⟨_, (Option.some.inj h).symm⟩ | cases h)
    | cases h
theorem ds_aug (c : Ctx T X) {m : M R} {i : Nat} {x : Str} {op : Operator} (hn : NmOk X i x) (ha : i ∈ as) (he : DE T X W e m) : DS T X W np as (.AugAssign (.Name x p) op e pos) ((varM i).bnd fun _ => (m.bnd (augM i op)).bnd fun _ => M.ret .nx) := fun F H w σ ρ D O h => by
  obtain ⟨h0, y0, v0, e0, e1, _⟩ := varM_holds O h
  refine fun pins s I => (ps_aug (ti := rU X (inplaceOp op)) c.nd hn.at_ hn.loc (pe_tw (e := e)) (fun pins s σ H x y v u Q I rx ry h => h pins s σ v u I rx ry) hn.fn).run pins s σ H D I ⟨v0, e1, ?_⟩
  have hlt : i < σ.length := by rw [I.len]; exact (List.getElem?_eq_some_iff.mp hn.at_).1
  refine he.runS O Sp2.refl (bnd_holds h0) fun r ρ1 F1 H1 w1 u h1 O1 s1 R1 => ?_
  unfold augM at h1
  have slot : ∀ {y : FV}, getSlot ρ1 i = some y → FvOk T F1 H1 w1 i y v0 ∧ ρ1[i]? = some (some (.fv y)) := fun {y} g => by
    unfold getSlot at g
    split at g
    · rename_i y' e
      cases g
      obtain ⟨v', q1, q2⟩ := O1.sl i _ e
      rw [e1] at q1
      cases q1
      exact ⟨q2, e⟩
    · cases g
  split at h1
  · rename_i xs y g1 g2
    split at h1
    · rename_i ys ey
      split at h1
      · rename_i hz
        obtain ⟨⟨q, us, rfl, hw, hH, rr⟩, er⟩ := slot g1
        obtain ⟨q2, us2, rfl, hH2, rr2⟩ := (R1.cn O1 g2).list O1.sub ey
        have hlt' : i < ρ1.length := by rw [O1.len]; exact hlt
        obtain ⟨O2, s2⟩ := mut_ok (o := .lst (us ++ us2)) (x := .lst (xs ++ ys)) O1 s1 hw hlt' (.ref q) e1 ⟨q, _, rfl, hw, upd_same, rr.append rr2⟩
        refine rU_of iop_ext ⟨q, q2, us, us2, rfl, rfl, hH, hH2, by rw [rr.len, rr2.len]; exact sz_le hz, ?_⟩
        have hk := (show KF T np F H w σ as D .nx (ρ1.set i (some (.lst (xs ++ ys)))) from h1)
        have es : σ.set i (some (.ref q)) = σ := by
          apply List.ext_getElem?
          intro j
          by_cases hj : j = i
          · subst hj
            rw [List.getElem?_set_self hlt, e1]
          · rw [List.getElem?_set_ne (Ne.symm hj)]
        show D.nx (σ.set i (some (.ref q))) _
        rw [es]
        exact hk F1 _ w1 σ O2 s2 Kp.refl
      · exact h1.elim
    · exact h1.elim
  · rename_i a0 y g1 g2
    split at h1
    · rename_i b0 ey
      split at h1
      · rename_i z ez
        obtain ⟨r0, er⟩ := slot g1
        have ev : v0 = .int a0 := r0
        have eu := (R1.cn O1 g2).int ey
        subst ev eu
        obtain ⟨d, rfl⟩ := ibo_int ez
        refine iop_ok ez fun d' ed => ?_
        cases ed
        obtain ⟨w2, O2, s2⟩ := put_ok (x := .dat (.int d)) (v := .int d) O1 s1 rfl hlt
        exact h1 F1 H1 w2 _ O2 s2 (Kp.set ha)
      · exact h1.elim
    · exact h1.elim
  · rename_i a0 y g1 g2
    split at h1
    · rename_i b0 ey
      split at h1
      · rename_i z ez
        obtain ⟨r0, er⟩ := slot g1
        have ev : v0 = .str a0 := r0
        have eu := (R1.cn O1 g2).str ey
        subst ev eu
        have eo : op = .Add := by
          cases op <;> first | rfl | (simp only [ibo, bo] at ez; cases ez)
        subst eo
        simp only [ibo, bo] at ez
        split at ez <;> cases ez
        rename_i hz
        refine rU_of iop_add_str ⟨_, _, rfl, rfl, sz_le hz, ?_⟩
        obtain ⟨w2, O2, s2⟩ := put_ok (x := .dat (.str (a0 ++ b0))) (v := .str (a0 ++ b0)) O1 s1 rfl hlt
        exact h1 F1 H1 w2 _ O2 s2 (Kp.set ha)
      · exact h1.elim
    · exact h1.elim
  · exact h1.elim
/-! ### xs[i] = v, self.f = v -/
theorem Reps.set : ∀ {ds : List D} {vs : List V} {d : D} {v : V} (j : Nat), Reps T F ds vs → Rep T F d v → Reps T F (ds.set j d) (vs.set j v)
  | [], vs, d, v, j, h, r => by rw [show vs = [] from h]; rfl
  | x :: ds, vs, d, v, 0, h, r => by
    obtain ⟨u, us, rfl, h1, h2⟩ := h
    exact ⟨v, us, rfl, r, h2⟩
  | x :: ds, vs, d, v, j + 1, h, r => by
    obtain ⟨u, us, rfl, h1, h2⟩ := h
    exact ⟨u, _, rfl, h1, Reps.set j h2 r⟩
theorem set_ok {i : Nat} {j : Int} {d : D} {v u : V} {K : Unit → En → Prop} {E : Ex → En → Prop} (O : Ok T F H w σ ρ) (s : Sp2 F0 H0 w0 F H w) (e1 : σ[i]? = some (some u)) (r : Rep T F d v) (h : (setAt i j d ρ).holds K E) :
    ∃ q us k, u = .ref q ∧ H q = some (.lst us) ∧ ixN us.length j = some k ∧ ∃ ρ', K () ρ' ∧ Ok T F (upd H q (.lst (us.set k v))) w σ ρ' ∧ Sp2 F0 H0 w0 F (upd H q (.lst (us.set k v))) w := by
  unfold setAt at h
  split at h
  · rename_i ds e
    split at h
    · rename_i k ek
      obtain ⟨u', q1, q, us, rfl, hw, hH, rr⟩ := O.sl i _ e
      rw [e1] at q1
      cases q1
      have hlt : i < ρ.length := (List.getElem?_eq_some_iff.mp e).1
      obtain ⟨O2, s2⟩ := mut_ok (o := .lst (us.set k v)) (x := .lst (ds.set k d)) O s hw hlt (.ref q) e1 ⟨q, _, rfl, hw, upd_same, rr.set k r⟩
      exact ⟨q, us, k, rfl, hH, by rw [rr.len]; exact ek, _, h, O2, s2⟩
    · exact h.elim
  · exact h.elim
theorem assign_sub {env : Env} {i : Expr} (hp : PlainIx i) (hi : ∀ lo hi p, i ≠ .Slice lo hi none p) : ∀ v, assign (.Subscript o i pos) env v = (do
      let ov ← holding [v] (eval o env)
      let iv ← holding [v, ov] (eval i env)
      standAt pos
      holding [v, ov, iv] (setItem ov iv v)
      release [v, ov, iv] []) := by
  intro v
  cases i with
  | Slice lo hi' st p =>
    cases st with
    | none => exact absurd rfl (hi lo hi' p)
    | some _ => rfl
  | _ => rfl
theorem ds_setIx (c : Ctx T X) {m mx : M R} {i : Nat} {x : Str} {ix : Expr} (hv : NmOk X i x) (hd : (x == ("__debug__" : Str)) = false) (hcd : (x == ("__classdict__" : Str)) = false) (he : DE T X W e m) (hx : DE T X W ix mx) (hp : PlainIx ix) (hsl : ∀ lo hi p, ix ≠ .Slice lo hi none p)
    (hs : swapsWithSole [.Subscript (.Name x p) ix tpos] e pos.line X.env = pure false) :
    DS T X W np as (.Assign [.Subscript (.Name x p) ix tpos] e pos) ((m.bnd takeM).bnd fun d => (varM i).bnd fun _ => mx.bnd fun q => (getM q).bnd fun x => (M.opt (asInt x)).bnd fun j => (setAt i j d).bnd fun _ => M.ret .nx) := fun F H w σ ρ D O h => by
  have vis : Vis X.env.scope x := by rcases hv.loc with k | k; exact .inl k; exact .inr (.inl k)
  refine twS_of (ps_asg pe_tw (pg_sub (pe_var hv.at_ vis hd hcd) (pe_tw (e := ix)) set_list (assign_sub hp hsl)) hs rfl rfl) ?_
  rw [bnd_assoc] at h
  refine he.runS O Sp2.refl h fun r ρ1 F1 H1 w1 v h1 O1 s1 R1 => ?_
  obtain ⟨d, ρ2, F2, w2, h2, O2, s2, r2⟩ := take_ok O1 s1 R1 (bnd_holds h1)
  obtain ⟨h3, y0, v0, e0, e1, _⟩ := varM_holds O2 h2
  refine ⟨v0, e1, ?_⟩
  refine hx.runS O2 s2 h3 fun q ρ3 F3 H3 w3 u h4 O3 s3 R3 => ?_
  obtain ⟨x', ex, h5⟩ := get_holds h4
  obtain ⟨j, ej, h6⟩ := optb h5
  have eu := (R3.cn O3 ex).int (i := j) (by rw [asInt_int ej]; rfl)
  subst eu
  obtain ⟨q', us, k, rfl, hH, hk, ρ4, h7, O4, s4⟩ := set_ok O3 (s2.trans s3) e1 (Rep.mono s3.ext d v r2) (bnd_holds h6)
  exact ⟨q', us, j, k, rfl, rfl, hH, hk, h7 F3 _ w3 σ O4 s4 Kp.refl⟩
theorem get_list : PGet X (fun o i H Q => ∃ p xs k v, o = .ref p ∧ i = .int k ∧ H p = some (.lst xs) ∧ atI xs k = some v ∧ Q v H) := by
  intro pins s σ H o i ov iv Q I ro ri h
  obtain ⟨p, xs, k, v, rfl, rfl, hp, he, q⟩ := h
  cases ro
  obtain ⟨t, rfl⟩ := ri
  obtain ⟨its, r, pl, hz⟩ := I.list (.of hp)
  obtain ⟨j, h1, h2, h3, h4, h5⟩ := atI_get he
  obtain ⟨w, ew, rw'⟩ := r.get h2
  have hl := r.length
  have hn := line63
  have fin : EP X pins σ Q w s := ⟨v, H, I, rw', q⟩
  by_cases h0 : 0 ≤ k
  · have hj : k.toNat = j := by
      rw [PySem.seqIndex_of h0 h5] at h1
      exact Option.some.inj h1
    exact wpAny_getItem_list pl.isList h0 (by omega) (by rw [hj]; simpa using ew) fin
  · have hj : (k + (its.toArray.size : Int)).toNat = j := by
      rw [seqIndex_neg (by omega) h4] at h1
      rw [List.size_toArray, ← hl]
      exact Option.some.inj h1
    exact wpAny_getItem_list_neg pl.isList (by omega) (by rw [List.size_toArray] <;> omega) (by omega) (by rw [hj]; simpa using ew) fin
theorem aug_store {i : Expr} (hsl : ∀ lo hi p, i ≠ .Slice lo hi none p) : ∀ ov iv new, augStore i ov iv new = (do holding [new, ov, iv] (setItem ov iv new); release [new, ov, iv] []; pure .next) := by
  intro ov iv new
  cases i with
  | Slice lo hi' st p =>
    cases st with
    | none => exact absurd rfl (hsl lo hi' p)
    | some _ => rfl
  | _ => rfl
theorem ds_augIx (c : Ctx T X) {m mx : M R} {i : Nat} {x : Str} {ix : Expr} {op : Operator} (hv : NmOk X i x) (hd : (x == ("__debug__" : Str)) = false) (hcd : (x == ("__classdict__" : Str)) = false) (he : DE T X W e m) (hx : DE T X W ix mx) (hsl : ∀ lo hi p, ix ≠ .Slice lo hi none p) :
    DS T X W np as (.AugAssign (.Subscript (.Name x p) ix tpos) op e pos) ((varM i).bnd fun _ => mx.bnd fun q => (getM q).bnd fun x => (M.opt (asInt x)).bnd fun j => (getM (.slot i)).bnd fun y => if isLst y then (M.opt (ixD y.frz (.int j))).bnd fun old =>
    m.bnd fun r => (getM r).bnd fun z => augV i j op old z.frz else fun _ => .stuck) := fun F H w σ ρ D O h => by
  have vis : Vis X.env.scope x := by rcases hv.loc with k | k; exact .inl k; exact .inr (.inl k)
  obtain ⟨h3, y0, v0, e0, e1, _⟩ := varM_holds O h
  refine twS_of (ps_augS (pe_var hv.at_ vis hd hcd) (pe_tw (e := ix)) get_list (pe_tw (e := e)) (tip := rU X (inplaceOp op)) (fun pins s σ H x y v u Q I rx ry h => h pins s σ v u I rx ry) set_list (aug_store hsl)) ?_
  refine ⟨v0, e1, ?_⟩
  refine hx.runS O Sp2.refl h3 fun q ρ3 F3 H3 w3 u h4 O3 s3 R3 => ?_
  obtain ⟨x', ex, h5⟩ := get_holds h4
  obtain ⟨j, ej, h6⟩ := optb h5
  have eu := (R3.cn O3 ex).int (i := j) (by rw [asInt_int ej]; rfl)
  subst eu
  obtain ⟨y, ey, h7⟩ := get_holds h6
  have Ry : ROk T H F3 H3 w3 σ (.slot i) v0 := e1
  have cy := Ry.cn O3 ey
  split at h7
  · rename_i hl
    obtain ⟨old, eo, h8⟩ := optb h7
    cases y with
    | dat d => cases hl
    | lst ds =>
      obtain ⟨q', us, rfl, hF, hH, rr⟩ := cy
      have eo' : atI ds j = some old := eo
      obtain ⟨v', hv', rv'⟩ := atI_rep rr eo'
      refine ⟨q', us, j, v', rfl, rfl, hH, hv', ?_⟩
      refine he.runS O3 s3 h8 fun r ρ4 F4 H4 w4 u4 h9 O4 s4 R4 => ?_
      obtain ⟨z, ez, h10⟩ := get_holds h9
      generalize ezz : z.frz = zz at h10
      unfold augV at h10
      split at h10
      · rename_i a b
        obtain ⟨vz, evz, h11⟩ := optb h10
        have e5 : v' = .int a := rv'
        have e6 := (R4.cn O4 ez).int ezz
        subst e5 e6
        obtain ⟨d, rfl⟩ := ibo_int evz
        refine iop_ok evz fun d' ed => ?_
        cases ed
        obtain ⟨q2, us2, k, eq2, hH2, hk, ρ5, h12, O5, s5⟩ := set_ok (d := .int d) (v := .int d) O4 (s3.trans s4) e1 rfl (bnd_holds h11)
        cases eq2
        exact ⟨q', us2, j, k, rfl, rfl, hH2, hk, h12 F4 _ w4 σ O5 s5 Kp.refl⟩
      · exact h10.elim
  · exact h7.elim
/-! ### fields -/
theorem putF_new : ∀ {ns : List Str} {vs : List V} {f : Str} {y : V}, ns.Nodup → ns[vs.length]? = some f → putF f y (ns.zip vs) = ns.zip (vs ++ [y])
  | [], vs, f, y, nd, h => by simp at h
  | n :: ns, [], f, y, nd, h => by
    simp at h
    subst h
    simp [putF]
  | n :: ns, v :: vs, f, y, nd, h => by
    have h' : ns[vs.length]? = some f := by simpa using h
    have hne : n ≠ f := fun z => (List.nodup_cons.mp nd).1 (z ▸ List.mem_of_getElem? h')
    show (if n = f then (n, y) :: ns.zip vs else (n, v) :: putF f y (ns.zip vs)) = _
    rw [if_neg hne, putF_new (List.nodup_cons.mp nd).2 h']
    rfl
theorem putF_old : ∀ {ns : List Str} {vs : List V} {k : Nat} {f : Str} {y : V}, ns.Nodup → ns[k]? = some f → k < vs.length → putF f y (ns.zip vs) = ns.zip (vs.set k y)
  | [], vs, k, f, y, nd, h, hk => by simp at h
  | n :: ns, [], k, f, y, nd, h, hk => by simp at hk
  | n :: ns, v :: vs, 0, f, y, nd, h, hk => by
    simp at h
    subst h
    show (if n = n then (n, y) :: ns.zip vs else (n, v) :: putF n y (ns.zip vs)) = _
    rw [if_pos rfl]
    rfl
  | n :: ns, v :: vs, k + 1, f, y, nd, h, hk => by
    have h' : ns[k]? = some f := by simpa using h
    have hne : n ≠ f := fun z => (List.nodup_cons.mp nd).1 (z ▸ List.mem_of_getElem? h')
    show (if n = f then (n, y) :: ns.zip vs else (n, v) :: putF f y (ns.zip vs)) = _
    rw [if_neg hne, putF_old (List.nodup_cons.mp nd).2 h' (by simpa using hk)]
    rfl
theorem fgt_ok {d : Dv.D} {v : V} (r : Rep T F d v) : Rep T F (fgt d) v := by
  cases d with
  | tpk ds =>
    obtain ⟨q, us, ob, rfl, h1, r1, _⟩ := r
    exact ⟨q, us, rfl, .inl (.inr ⟨ob, h1⟩), r1⟩
  | _ => exact r
theorem ds_fset (c : Ctx T X) {tys : List Ty} (kc : KCls T tys) {m : M R} {i : Nat} {x f : Str} {tb : List (Nat × Nat)} (hN : X.N[i]? = some x) (hvis : Vis X.env.scope x) (hd : (x == ("__debug__" : Str)) = false) (hcd : (x == ("__classdict__" : Str)) = false) (he : DE T X W e m)
    (ht : ∀ c k, tb.lookup c = some k → (T.fl c)[k]? = some f) (hs : swapsWith e (some (.Attribute (.Name x p) f apos)) pos.line X.env = pure false) :
    DS T X W np as (.Assign [.Attribute (.Name x p) f apos] e pos) ((m.bnd takeM).bnd fun d => (varM i).bnd fun _ => (fsetM i tb d).bnd fun _ => M.ret .nx) := fun F H w σ ρ D O h => by
  refine twS_of (ps_fld (pe_var hN hvis hd hcd) (pe_tw (e := e)) hs) ?_
  rw [bnd_assoc] at h
  refine he.runS O Sp2.refl h fun r ρ1 F1 H1 w1 v h1 O1 s1 R1 => ?_
  obtain ⟨d, ρ2, F2, w2, h2, O2, s2, r2⟩ := take_ok O1 s1 R1 (bnd_holds h1)
  obtain ⟨h3, y0, v0, e0, e1, sv⟩ := varM_holds O2 h2
  refine ⟨v0, e1, ?_⟩
  have h4 := bnd_holds h3
  unfold fsetM at h4
  split at h4
  · rename_i cc ds e2
    rw [e0] at e2
    cases e2
    obtain ⟨q, dx, us, rfl, hw, hH, hl, rr, hc⟩ := sv
    have hlt : i < ρ2.length := (List.getElem?_eq_some_iff.mp e0).1
    have hrl := rr.len
    have rv := fgt_ok r2
    split at h4
    · rename_i k ek
      have hk := ht _ _ ek
      have hkl := (List.getElem?_eq_some_iff.mp hk).1
      refine ⟨q, T.ca cc, dx, _, rfl, hH, by rw [c.K]; exact kc.cls cc hc, by rw [c.K]; exact kc.atr cc hc f (List.mem_of_getElem? hk), ?_, ?_⟩
      · have := (kc.nd cc hc).2
        rw [List.length_zip]
        omega
      · split at h4
        · rename_i e3
          subst e3
          rw [putF_new (kc.nd cc hc).1 (by rw [hrl]; exact hk)]
          obtain ⟨O3, s3⟩ := mut_ok (o := .ins (T.ca cc) dx ((T.fl cc).zip (us ++ [v]))) (x := .ins cc (ds ++ [fgt d])) O2 s2 hw hlt (.ref q) e1
            ⟨q, dx, us ++ [v], rfl, hw, upd_same, by rw [List.length_append, List.length_singleton]; omega, rr.append ⟨v, [], rfl, rv, rfl⟩, hc⟩
          exact h4 F2 _ w2 σ O3 s3 Kp.refl
        · split at h4
          · rename_i e3
            rw [putF_old (kc.nd cc hc).1 hk (by rw [hrl]; exact e3)]
            obtain ⟨O3, s3⟩ := mut_ok (o := .ins (T.ca cc) dx ((T.fl cc).zip (us.set k v))) (x := .ins cc (ds.set k (fgt d))) O2 s2 hw hlt (.ref q) e1
              ⟨q, dx, us.set k v, rfl, hw, upd_same, by rw [List.length_set]; exact hl, rr.set k rv, hc⟩
            exact h4 F2 _ w2 σ O3 s3 Kp.refl
          · exact h4.elim
    · exact h4.elim
  · exact h4.elim
theorem ds_fsetK (c : Ctx T X) {tys : List Ty} (kc : KCls T tys) {m : M R} {i : Nat} {x f : Str} {tb : List (Nat × Nat)} (hN : X.N[i]? = some x) (hvis : Vis X.env.scope x) (hd : (x == ("__debug__" : Str)) = false) (hcd : (x == ("__classdict__" : Str)) = false) (he : DE T X W e m)
    (ht : ∀ c k, tb.lookup c = some k → (T.fl c)[k]? = some f) (hs : swapsWith e (some (.Attribute (.Name x p) f apos)) pos.line X.env = pure false) :
    DS T X W np as (.Assign [.Attribute (.Name x p) f apos] e pos) ((m.bnd takeM).bnd fun d => (varM i).bnd fun _ => (fsetKM i tb d).bnd fun _ => M.ret .nx) := fun F H w σ ρ D O h => by
  refine twS_of (ps_fld (pe_var hN hvis hd hcd) (pe_tw (e := e)) hs) ?_
  rw [bnd_assoc] at h
  refine he.runS O Sp2.refl h fun r ρ1 F1 H1 w1 v h1 O1 s1 R1 => ?_
  obtain ⟨d, ρ2, F2, w2, h2, O2, s2, r2⟩ := take_ok O1 s1 R1 (bnd_holds h1)
  obtain ⟨h3, y0, v0, e0, e1, sv⟩ := varM_holds O2 h2
  refine ⟨v0, e1, ?_⟩
  have h4 := bnd_holds h3
  unfold fsetKM at h4
  split at h4
  · rename_i cc ds e2
    rw [e0] at e2
    cases e2
    obtain ⟨q, dx, us, rfl, hw, hH, hl, rr, hc⟩ := sv
    have hlt : i < ρ2.length := (List.getElem?_eq_some_iff.mp e0).1
    have hrl := rr.len
    have rv := r2
    split at h4
    · rename_i k ek
      have hk := ht _ _ ek
      have hkl := (List.getElem?_eq_some_iff.mp hk).1
      refine ⟨q, T.ca cc, dx, _, rfl, hH, by rw [c.K]; exact kc.cls cc hc, by rw [c.K]; exact kc.atr cc hc f (List.mem_of_getElem? hk), ?_, ?_⟩
      · have := (kc.nd cc hc).2
        rw [List.length_zip]
        omega
      · split at h4
        · rename_i e3
          subst e3
          rw [putF_new (kc.nd cc hc).1 (by rw [hrl]; exact hk)]
          obtain ⟨O3, s3⟩ := mut_ok (o := .ins (T.ca cc) dx ((T.fl cc).zip (us ++ [v]))) (x := .ins cc (ds ++ [d])) O2 s2 hw hlt (.ref q) e1
            ⟨q, dx, us ++ [v], rfl, hw, upd_same, by rw [List.length_append, List.length_singleton]; omega, rr.append ⟨v, [], rfl, rv, rfl⟩, hc⟩
          exact h4 F2 _ w2 σ O3 s3 Kp.refl
        · split at h4
          · rename_i e3
            rw [putF_old (kc.nd cc hc).1 hk (by rw [hrl]; exact e3)]
            obtain ⟨O3, s3⟩ := mut_ok (o := .ins (T.ca cc) dx ((T.fl cc).zip (us.set k v))) (x := .ins cc (ds.set k d)) O2 s2 hw hlt (.ref q) e1
              ⟨q, dx, us.set k v, rfl, hw, upd_same, by rw [List.length_set]; exact hl, rr.set k rv, hc⟩
            exact h4 F2 _ w2 σ O3 s3 Kp.refl
          · exact h4.elim
    · exact h4.elim
  · exact h4.elim
/-! ### blocks, if, while, for -/
theorem dss_nil : DSs T X W np as [] (M.ret .nx) := fun F H w σ ρ D O h => twSs_of pss_nil (h F H w σ O Sp2.refl Kp.refl)
theorem dss_cons {ms mss : M Fl} (h1 : DS T X W np as st ms) (h2 : DSs T X W np as ss mss) : DSs T X W np as (st :: ss) (ms.bnd fun f => match f with
    | .nx => mss
    | f => M.ret f) := fun F H w σ ρ D O h => by
  refine twSs_of (pss_cons ps_twS pss_twSs) ?_
  refine h1 F H w σ ρ _ O (Out.holds_imp (bnd_holds h) (fun f ρ1 q F1 H1 w1 σ1 O1 s1 k1 => ?_) fun _ _ q => q)
  cases f with
  | nx => exact h2.go O1 s1 k1 q
  | bk => exact q F1 H1 w1 σ1 O1 s1 k1
  | ct => exact q F1 H1 w1 σ1 O1 s1 k1
  | rt x => exact fun v r => q F1 H1 w1 σ1 O1 s1 k1 v r
theorem ds_iff {mc : M Bool} {ma mb : M Fl} {sa sb : List Stmt} (hc : DT T X W e mc) (ha : DSs T X W np as sa ma) (hb : DSs T X W np as sb mb) : DS T X W np as (.If e sa sb pos) (mc.bnd fun k => if k then ma else mb) := fun F H w σ ρ D O h => by
  refine twS_of (ps_if pt_twT pss_twSs pss_twSs) ?_
  refine hc.runS O Sp2.refl h fun b ρ1 F1 H1 w1 h1 O1 s1 => ?_
  cases b with
  | true => exact ha.go O1 s1 Kp.refl h1
  | false => exact hb.go O1 s1 Kp.refl h1
theorem ds_whl {mc : M Bool} {mb : M Fl} {n : Nat} (hp : PassesOwn (model X.prog X.w) X.A X.env X.xe) (hc : DT T X W e mc) (hb : DSs T X W np as ss mb) : DS T X W np as (.While e ss [] pos) (whlGo mc mb n) := fun F H w σ ρ D O h => by
  refine twS_of (ps_while hp pt_twT pss_twSs) ?_
  refine ⟨fun m σ1 H1 => ∃ F1 w1 ρ1, Ok T F1 H1 w1 σ1 ρ1 ∧ Sp2 F H w F1 H1 w1 ∧ Kp as σ σ1 ∧ (whlGo mc mb m ρ1).holds (KF T np F H w σ as D) (KXS T W F H w σ as), ⟨n, F, w, ρ, O, Sp2.refl, Kp.refl, h⟩, ?_⟩
  rintro m σ1 H1 ⟨F1, w1, ρ1, O1, s1, k1, h1⟩
  cases m with
  | zero => exact h1.elim
  | succ m =>
    refine hc F1 H1 w1 σ1 ρ1 _ O1 (Out.holds_imp (bnd_holds (show ((mc.bnd fun b => if b then mb.bnd fun f => match f with
    | .nx => whlGo mc mb m
    | .ct => whlGo mc mb m
    | .bk => M.ret .nx
    | .rt y => M.ret (.rt y) else M.ret .nx) ρ1).holds _ _ from h1)) (fun b ρ2 q F2 H2 w2 O2 s2 => ?_) fun x ρ2 q => (q.back s1 k1).ex)
    cases b with
    | false =>
      rw [if_neg Bool.false_ne_true] at q ⊢
      exact q F2 H2 w2 σ1 O2 (s1.trans s2) k1
    | true =>
      rw [if_pos rfl] at q ⊢
      refine ⟨fun σ3 H3 => ∃ F3 w3 ρ3, Ok T F3 H3 w3 σ3 ρ3 ∧ Sp2 F H w F3 H3 w3 ∧ Kp as σ σ3 ∧ (whlGo mc mb m ρ3).holds (KF T np F H w σ as D) (KXS T W F H w σ as), fun σ3 H3 z => ⟨m, Nat.lt_succ_self _, z⟩, ?_⟩
      refine hb F2 H2 w2 σ1 ρ2 _ O2 (Out.holds_imp (bnd_holds q) (fun f ρ3 q3 F3 H3 w3 σ3 O3 s3 k3 => ?_) fun x ρ3 q => q.back (s1.trans s2) k1)
      cases f with
      | nx => exact ⟨F3, w3, ρ3, O3, (s1.trans s2).trans s3, k1.trans k3, q3⟩
      | ct => exact ⟨F3, w3, ρ3, O3, (s1.trans s2).trans s3, k1.trans k3, q3⟩
      | bk => exact q3 F3 H3 w3 σ3 O3 ((s1.trans s2).trans s3) (k1.trans k3)
      | rt y => exact fun v r => q3 F3 H3 w3 σ3 O3 ((s1.trans s2).trans s3) (k1.trans k3) v (r.back (s1.trans s2))
theorem ds_for (c : Ctx T X) {g : Tg} {ci : CI} {mi : M (List Dv.D)} {mb : M Fl} (hp : PassesOwn (model X.prog X.w) X.A X.env X.xe) (hi : IT T X W tg e ci mi) (hg : DG T X tg g as) (hb : DSs T X W np as ss mb) (hs : ∀ x, foldedSetIterable e X.env x = pure x) (hln : ∀ i, lendOf ci = some i → i ∉ as) :
    DS T X W np as (.For tg e ss [] pos) (withIt ci mi fun items => forGo g mb items) := fun F H w σ ρ D O h => by
  refine twS_of (ps_forE (u := tNext) hp c.calm pi_twI pg_twG pss_twSs pss_nil hs) ?_
  refine hi _ F H w σ ρ _ _ _ O h (fun x ρ' q => q.ex) fun items F1 H1 w1 ρ1 J Kq1 Ke1 O1 i1 h1 cl => ?_
  have ln : ∀ {σ' : St}, Kp as σ σ' → ∀ i, lendOf ci = some i → σ'[i]? = σ[i]? := fun k i e => k.2 i (hln i e)
  refine ⟨fun i m σ2 H2 => m = items.length - i ∧ i ≤ items.length ∧ ∃ F2 w2 ρ2, Ok T F2 H2 w2 σ2 ρ2 ∧ Sp2 F1 H1 w1 F2 H2 w2 ∧ Kp as σ σ2 ∧ (forGo g mb (items.drop i) ρ2).holds Kq1 Ke1, ⟨_, rfl, Nat.zero_le _, F1, w1, ρ1, O1, Sp2.refl, Kp.refl, by rw [List.drop_zero]; exact h1⟩, ?_⟩
  rintro i m σ2 H2 ⟨rfl, hi', F2, w2, ρ2, O2, s2, k2, h2⟩
  obtain ⟨j1, j2⟩ := i1 i F2 H2 w2 _ _ O2 s2
  by_cases hlt : i < items.length
  · obtain ⟨kg, ky⟩ := j1 _ (List.getElem?_eq_getElem hlt)
    rw [List.drop_eq_getElem_cons hlt] at h2
    refine .inr ⟨kg, fun σ3 H3 => ∃ F3 w3 ρ3, Ok T F3 H3 w3 σ3 ρ3 ∧ Sp2 F1 H1 w1 F3 H3 w3 ∧ Kp as σ σ3 ∧ (forGo g mb (items.drop (i + 1)) ρ3).holds Kq1 Ke1, fun σ3 H3 z => ⟨_, by omega, rfl, hlt, z⟩, fun x H3 y => ?_⟩
    obtain ⟨F3, O3, s3, r3⟩ := ky x H3 y
    have h2' : ((asgT g items[i]).bnd (fun _ => mb.bnd fun f => match f with
    | .nx => forGo g mb (items.drop (i + 1))
    | .ct => forGo g mb (items.drop (i + 1))
    | .bk => M.ret .nx
    | .rt y => M.ret (.rt y)) ρ2).holds Kq1 Ke1 := h2
    have h3 := bnd_holds h2'
    refine hg F3 H3 w2 σ2 ρ2 _ x _ O3 r3 ?_
    cases ez : asgT g items[i] ρ2 with
    | stuck => rw [ez] at h3; exact h3
    | exc e ρ' => exact (asgT_noexc g _ ρ2 e ρ' ez).elim
    | ok _ ρ3 =>
      rw [ez] at h3
      intro w4 σ4 O4 s4 k4
      have s14 := (s2.trans s3).trans s4
      refine hb F3 H3 w4 σ4 ρ3 _ O4 (Out.holds_imp (bnd_holds h3) (fun f ρ5 q5 F5 H5 w5 σ5 O5 s5 k5 => ?_) fun x ρ5 q5 F5 H5 w5 σ5 O5 s5 k5 cls d xd => ?_)
      · have k15 := (k2.trans k4).trans k5
        cases f with
        | nx => exact ⟨F5, w5, ρ5, O5, s14.trans s5, k15, q5⟩
        | ct => exact ⟨F5, w5, ρ5, O5, s14.trans s5, k15, q5⟩
        | bk =>
          obtain ⟨w6, ρ6, O6, s6, _, c4, _⟩ := cl F5 H5 w5 σ5 ρ5 O5 (s14.trans s5) (ln k15)
          exact c4 _ q5 F5 H5 w6 σ5 O6 s6 k15
        | rt y =>
          intro v rv
          obtain ⟨w6, ρ6, O6, s6, ⟨c1, c2, c3⟩, c4, _⟩ := cl F5 H5 w5 σ5 ρ5 O5 (s14.trans s5) (ln k15)
          refine c4 _ q5 F5 H5 w6 σ5 O6 s6 k15 v ?_
          have rv1 := rv.back s14
          cases y with
          | dat d => exact rv1
          | lst es =>
            obtain ⟨q, us, rfl, t1, t2, t3, t4, t5⟩ := rv1
            refine ⟨q, us, rfl, ?_, c1 q t2 (t1.imp id fun ⟨j, z, _⟩ => ⟨j, z⟩), t3, t4, t5⟩
            rcases t1 with t1 | ⟨j, t1, hj⟩
            · exact .inl (c2 q t1)
            · rcases c3 q j t1 with z | z
              · exact .inr ⟨j, z, hj⟩
              · exact .inl z
      · have k15 := (k2.trans k4).trans k5
        obtain ⟨w6, ρ6, O6, s6, _, _, c5⟩ := cl F5 H5 w5 σ5 ρ5 O5 (s14.trans s5) (ln k15)
        exact c5 _ q5 F5 H5 w6 σ5 O6 s6 k15 cls d xd
  · have e : i = items.length := by omega
    subst e
    refine .inl ⟨j2 (Nat.le_refl _), ?_⟩
    rw [List.drop_length] at h2
    obtain ⟨w6, ρ6, O6, s6, _, c4, _⟩ := cl F2 H2 w2 σ2 ρ2 O2 s2 (ln k2)
    exact c4 .nx h2 F2 H2 w6 σ2 O6 s6 k2
end
end Dv
end
section
set_option Elab.async false
set_option maxRecDepth 100000
set_option linter.all false
/-! raise, try -/
namespace Dv
open PySem PySem.Spec L2

/-- what of an exception's class is asked, so that it may be raised -/
structure ExcK (X : Cx) (x : Str) (C : Addr) : Prop where
  exc : PySem.W.excIn X.K C He.veBase "ValueError.__new__" = true
  kp : PySem.W.keepIn X.K (.ref C) = true
  sub : PySem.W.subIn X.K (.ref C) (.type "BaseException") = some true
  ty : PySem.W.typeIn X.K (.ref C) = some (.type "type")
  glo : X.mg x = some (.ref C)
section
variable {T : Tb} {X : Cx} {W : WX} {F H F0 H0 F' H' F1 H1 : Hp} {w w0 w' w1 : Wn} {σ σ1 : St} {ρ : En} {a b e e2 o tg : Expr} {es ifs : List Expr} {pos apos p tpos : Pos} {vs : List V} {np : Nat} {as : List Nat} {st : Stmt} {ss : List Stmt}
theorem ds_raise (c : Ctx T X) (tk : Takes X W) {k : Nat} {x m : Str} {j : Nat} {p2 cpos : Pos} (hk : k < T.ne) (ek : ExcK X x (T.ea k)) (hg : Gl X x) (hdb : (x == ("__debug__" : Str)) = false) :
    DS T X W np as (.Raise (some (.Call (.Name x p) [.Constant (.str m) j p2] [] cpos)) none pos) (fun ρ => .exc ⟨k, []⟩ ρ) := fun F H w σ ρ D O h => by
  refine twS_of (ps_raise c.calm tk (pmk_own PySem.F.excBase_ValueError ek.exc ek.glo ek.kp (raises_own ek.sub ek.ty) hg hdb)) ?_
  exact h F H w σ O Sp2.refl Kp.refl _ _ ⟨rfl, hk, .inl ⟨rfl, rfl⟩⟩
/-! ### try: .. except x as n: y = n -/
/-- the caught exception is tracked -/
theorem Inv.track {pins : List (Addr × Obj)} {σ' : St} {H' : Hp} {sI s' : Shared} {a : Addr} {cls : Value} {d : Option Addr} {oe : Obj} {vs : Array Value} {B : Heap} (hs : X.stack = X.env :: X.outer) (hf : X.env.frame = some X.env.locals) (hex : X.ex = []) (J : Inv X pins σ' H' sI) (J4 : Inv X pins σ' H' s')
    (nb : ∀ b o, sI.heap.get? b = some o → b ∉ frs X.stack → B.get? b = some o) (hB : B.get? a = none) (na : H' a = none) (he : s'.heap.get? a = some oe) (hz : Zc cls d oe) (hd : oe.data = .fields vs) (nL : a ≠ X.env.locals) (nF : a ∉ X.fs) :
    Inv X pins σ' (upd H' a (exH cls d a)) s' := by
  have nst : a ∉ frs X.stack := fun z => by
    rcases List.mem_cons.mp (J.stkSub a z) with z | z
    · exact nL z
    · exact nF z
  have n0 : ∀ o, X.s_0.heap.get? a = some o → False := fun o e => by
    obtain ⟨o', e1⟩ := J.base.there a o e (by rw [hex]; exact fun z => nomatch z)
    have := nb a o' e1 nst
    rw [hB] at this
    cases this
  have ne : ∀ b u, H' b = some u → b ≠ a := fun b u e z => by
    rw [z, na] at e
    cases e
  refine ⟨J4.ok, J4.os, J4.bare, ⟨J4.base.keep, J4.base.slot, fun b o e n hb => ?_, J4.base.there, fun b xs q => ?_, fun b o u q => ?_, fun b ps q => ?_⟩, J4.loc, J4.cell, ?_, fun x c e => ?_, fun q hq => ?_, fun b o e => ?_, J4.len⟩
  · rw [upd_ne (fun z => n0 o (by rw [← z]; exact e))]
    exact J4.base.free b o e n hb
  · have := J4.base.tups b xs q
    rw [upd_ne (ne b _ this)]
    exact this
  · have := J4.base.frzs b o u q
    rw [upd_ne (ne b _ this)]
    exact this
  · obtain ⟨more, h⟩ := J4.base.tbls b ps q
    exact ⟨more, by rw [upd_ne (ne b _ h)]; exact h⟩
  · rw [upd_ne (Ne.symm nL)]
    exact J4.free
  · have hc : c ≠ a := fun z => by
      obtain ⟨v, o, ho, hv⟩ := J4.cell x c e
      rw [z, he] at ho
      cases ho
      rw [hd] at hv
      cases hv
    rw [upd_ne hc]
    exact J4.freeC x c e
  · obtain ⟨p1, p2, p3, p4, p5⟩ := J4.pin q hq
    obtain ⟨q1, q2, q3, q4, q5⟩ := J.pin q hq
    have hqa : q.1 ≠ a := fun z => by
      have : B.get? q.1 = some q.2 := nb q.1 q.2 q1 fun z => by
        rcases List.mem_cons.mp (J.stkSub _ z) with z | z
        · exact q3 z
        · exact q4 z
      rw [z, hB] at this
      cases this
    exact ⟨p1, by rw [upd_ne hqa]; exact p2, p3, p4, p5⟩
  · by_cases hb : b = a
    · subst hb
      rw [upd_same] at e
      cases e
      exact ⟨⟨oe, vs, he, hz, hd⟩, ⟨oe, he⟩, fun h1 h2 ⟨oe', vs', g1, g2, g3⟩ k => ⟨oe', vs', k _ g1, g2, g3⟩⟩
    · rw [upd_ne hb] at e
      refine (J4.hok b o e).stay (fun c u _ q => q) (fun c q => ?_) fun c xs q => ?_
      · rw [upd_ne (ne c _ q)]
        exact q
      · rw [upd_ne (ne c _ q)]
        exact q
/-- what the clause wishes of an exception of the body -/
def wA2 (K : PySem.W.Frag) (c : Value) (i j : Nat) (Wout : WX) (D : Ends) : WX := fun cls d σ H =>
  ∃ b, PySem.W.exmOne K cls c = some b ∧ (b = true → ∀ a, H a = none → D.nx (((σ.set i (some (.ref a))).set j (some (.ref a))).set i none) (upd H a (exH cls d a))) ∧ (b = false → Wout cls d σ H)
theorem try_as {x n y : Str} {c : Value} {i j : Nat} {np' pa pos' py pn : Pos} {Wout : WX} {D : Ends} (hs : X.stack = X.env :: X.outer) (hf : X.env.frame = some X.env.locals) (hex : X.ex = []) (hN : X.N.Nodup) (hi : X.N[i]? = some n) (hln : X.env.scope.names.lookup n = some .local) (hj : NmOk X j y)
    (hnd : (n == ("__debug__" : Str)) = false) (hncd : (n == ("__classdict__" : Str)) = false) (hc : Names X x c) (tk : Takes X Wout)
    (hb : ∀ (pn : List (Addr × Obj)) (xe : Value → Shared → Prop), Takes (X.tr pn xe) (wA2 X.K c i j Wout D) → PassesOwn (model X.prog X.w) X.A X.env xe → twSs (X.tr pn xe) ss D σ H) :
    twS X (.Try ss [.ExceptHandler (some (.Name x np')) (some n) [.Assign [.Name y py] (.Name n pn) pa] pos'] [] [] pos) D σ H := by
  intro pins s I
  have ok := I.ok
  have hfr : X.A.frames = some (X.env :: X.outer) := by rw [ok.frames, hs]
  have hloc : Loc X.env.scope n := .inl hln
  refine wpAny_Try_except ?_
  refine wpAny_mono (hb (X.pn ++ pins) (fun e s₁ => wpAny (model X.prog X.w) X.A (noteFrame e X.env) (fun _ s₂ => wpAny (model X.prog X.w) X.A (setFlight e none) (fun _ s₃ =>
    wpAny (model X.prog X.w) X.A (handleBy e X.env [.ExceptHandler (some (.Name x np')) (some n) [.Assign [.Name y py] (.Name n pn) pa] pos']) (SP X pins D) X.xe s₃) X.xe s₂) X.xe s₁) (fun u s' xx => ?_) PassesOwn.looking [] s (I.toTry _)) (fun f s1 hsp => ?_) (fun e s1 he => he)
  · obtain ⟨a, B, sI, pins', σ', H', cls, d, rfl, J', nb, up, sky, na, os, ag, b, hb1, hyes, hno⟩ := xx
    have J : Inv X pins σ' H' sI := J'.ofTry ok
    have sky' : Sky B (X.env :: X.outer) a (Zc cls d) X.env.locals s'.heap := by rw [← hs]; exact sky
    show wpAny (model X.prog X.w) X.A (noteFrame (.ref a) X.env) _ _ _
    refine Sky.land Zc.steady hfr hf sky' fun h3 fl3 up3 => ?_
    have J3 : Inv X pins σ' H' { s' with heap := h3 } := J.landed nb fl3.1 (up.trans up3) os ag
    obtain ⟨oe3, vs3, he3, hz3, hd3⟩ := fl3.there
    have notFr : ∀ {h : Heap} {o : Obj} {vs : Array Value}, h.FunFrames B (X.env :: X.outer) → h.get? a = some o → o.data = .fields vs → a ∉ frs (X.env :: X.outer) := fun {h o vs} ff e dd hm => by
      obtain ⟨_, o', e', hnf⟩ := ff.mem hm
      rw [e] at e'; cases e'
      exact hnf _ dd
    have nfr := notFr fl3.2.2.1 he3 hd3
    have nL : a ≠ X.env.locals := fun z => nfr (List.mem_filterMap.mpr ⟨X.env, List.mem_cons_self, by rw [hf, z]⟩)
    have nF : a ∉ X.fs := fun hm => by
      obtain ⟨e, he, q⟩ := List.mem_filterMap.mp hm
      exact nfr (List.mem_filterMap.mpr ⟨e, List.mem_cons_of_mem _ he, q⟩)
    have S3 := J3.suite he3 hd3 na nL nF
    refine wpAny_handleBy_cons (codeAny_handlers_test ?_) (by intro q; cases q)
    have LT : PySem.W.Looks (model X.prog X.w) h3 (typeOf (.ref a)) cls := fun A Q E s k q => wpAny_typeOf_ref (k _ _ he3) (by rw [hz3.1]; exact q)
    have LM := PySem.W.exm_one (M := model X.prog X.w) (J3.kIn) LT hb1
    have test : ∀ {Q : Value → Shared → Prop} {E : Value → Shared → Prop}, Q c { s' with heap := h3 } → wpAny (model X.prog X.w) (X.A.mark (some (.ref a))) (eval (.Name x np') X.env) Q E { s' with heap := h3 } := fun {Q E} q => by
      obtain ⟨hg, hdbg, hm | ⟨hm, hv, hnn⟩⟩ := hc
      · exact ld_glob (X := X.suite a ((a, oe3) :: (X.pn ++ pins))) S3 hg hm q hdbg
      · exact ld_blt (X := X.suite a ((a, oe3) :: (X.pn ++ pins))) S3 hg hm hv q hnn hdbg
    refine test (LM.here ?_)
    cases b with
    | true =>
      refine codeAny_handlers_suite_as ?_
      refine HandSPX.lands_againZ fl3 fun h4 fl4 up4 => ?_
      have J4 : Inv X pins σ' H' { s' with heap := h4 } := J.landed nb fl4.1 ((up.trans up3).trans up4) os ag
      obtain ⟨oe4, vs4, he4, hz4, hd4⟩ := fl4.there
      have J5 : Inv X pins σ' (upd H' a (exH cls d a)) { s' with heap := h4 } := Inv.track hs hf hex J J4 nb fl4.2.1 na he4 hz4 hd4 nL nF
      have S5 : Inv (X.suite a (X.pn ++ pins)) [] σ' (upd H' a (exH cls d a)) { s' with heap := h4 } :=
        ⟨J5.ok.suite _ _, J5.os, J5.bare, J5.base, J5.loc, J5.cell, J5.free, J5.freeC, fun p hp => by
          rw [List.append_nil] at hp
          exact J5.pin p hp, J5.hok, J5.len⟩
      refine L2.store_ok (X := X.suite a (X.pn ++ pins)) (v := .ref a) S5 hN hi hloc rfl (fun s6 S6 => ?_) (.inr hln)
      have hlt : i < σ'.length := by rw [J5.len]; exact (List.getElem?_eq_some_iff.mp hi).1
      have hst : PSs (X.suite a (X.pn ++ pins)) [.Assign [.Name y py] (.Name n pn) pa] (tAsg (tVar i) (gName j)) := pss_one (ps_set hN hj.at_ hj.loc (pe_var hi (.inl hln) hnd hncd) rfl hj.fn)
      refine wpAny_mono (hst.run [] s6 _ _ { nx := fun σ7 H7 => σ7 = (σ'.set i (some (.ref a))).set j (some (.ref a)) ∧ H7 = upd H' a (exH cls d a), rt := fun _ _ => False } S6 ⟨.ref a, List.getElem?_set_self hlt, rfl, rfl⟩) (fun f s7 hsp => ?_) (fun _ _ z => False.elim z)
      cases f with
      | next =>
        obtain ⟨σ7, H7, S7, rfl, rfl⟩ := hsp
        have J7 : Inv X pins ((σ'.set i (some (.ref a))).set j (some (.ref a))) (upd H' a (exH cls d a)) s7 :=
          ⟨ok, S7.os, S7.bare, S7.base, S7.loc, S7.cell, S7.free, S7.freeC, fun p hp => S7.pin p (by rw [List.append_nil]; exact hp), S7.hok, S7.len⟩
        exact gone_ok J7 hN hi hln fun s8 J8 => ⟨_, _, J8, hyes rfl a na⟩
      | brk =>
        obtain ⟨_, _, _, q⟩ := hsp
        exact q.elim
      | cont =>
        obtain ⟨_, _, _, q⟩ := hsp
        exact q.elim
      | ret u =>
        obtain ⟨_, _, _, _, _, q⟩ := hsp
        exact q.elim
    | false =>
      show wpAny _ X.A (handleBy (.ref a) X.env []) _ _ _
      refine wpAny_handleBy_nil ?_
      obtain ⟨k1, k2, k3, oe, vs, T, oT, ts', he, hz, hd, h1, hr⟩ := id fl3
      unfold PySem.passOn
      refine wpAny_bind (wpAny_field he hd h1 ?_)
      rw [if_neg (show ¬ ((Value.ref T == Value.none) = true) from by simp)]
      have fin : wpAny (model X.prog X.w) X.A (setFlight (.ref a) X.env.frame) (fun _ s4 => wpAny (model X.prog X.w) X.A (throw (.ref a) : Sem Flow) (SP X pins D) X.xe s4) X.xe { s' with heap := h3 } := by
        rw [hf]
        refine HandSPX.setFlight_upZ fl3 fun h4 hh4 up4 => wpAny_throw (tk _ _ ?_)
        exact ⟨a, B, sI, pins, σ', H', cls, d, rfl, J, nb, (up.trans up3).trans up4, .inr (.inr (by rw [hs]; exact hh4)), na, os, ag, hno rfl⟩
      first
        | exact wpAny_bind (wpAny_pure (wpAny_bind fin))
        | exact wpAny_bind fin
  · cases f with
    | next =>
      obtain ⟨σ', H', J', q⟩ := hsp
      exact wpAny_execs_nil ⟨σ', H', J'.ofTry ok, q⟩
    | brk =>
      obtain ⟨σ', H', J', q⟩ := hsp
      exact ⟨σ', H', J'.ofTry ok, q⟩
    | cont =>
      obtain ⟨σ', H', J', q⟩ := hsp
      exact ⟨σ', H', J'.ofTry ok, q⟩
    | ret u =>
      obtain ⟨v, σ', H', J', r, q⟩ := hsp
      exact ⟨v, σ', H', J'.ofTry ok, r, q⟩
theorem ok_none {i : Nat} (O : Ok T F H w σ ρ) : Ok T F H w (σ.set i none) (ρ.set i none) := ⟨O.sub, O.own, by rw [List.length_set, List.length_set]; exact O.len, fun j y h => by
  by_cases hj : j = i
  · subst hj
    by_cases hl : j < ρ.length
    · rw [List.getElem?_set_self hl] at h
      cases h
    · rw [List.getElem?_eq_none (by rw [List.length_set]; omega)] at h
      cases h
  · rw [List.getElem?_set_ne (Ne.symm hj)] at h ⊢
    exact O.sl j y h⟩
theorem ds_tryAs (c : Ctx T X) (tk : Takes X W) {x n y : Str} {i j k : Nat} {subs : List Nat} {mb : M Fl} {np' pa pos' py pn : Pos} (hs : X.stack = X.env :: X.outer) (hf : X.env.frame = some X.env.locals) (hex : X.ex = []) (hi : X.N[i]? = some n) (hln : X.env.scope.names.lookup n = some .local) (hj : NmOk X j y) (hij : i ≠ j)
    (hnd : (n == ("__debug__" : Str)) = false) (hncd : (n == ("__classdict__" : Str)) = false) (hc : Names X x (.ref (T.ea k))) (hexm : ∀ c, c < T.ne → PySem.W.exmOne X.K (.ref (T.ea c)) (.ref (T.ea k)) = some (subs.contains c)) (hia : i ∈ as) (hja : j ∈ as)
    (hb : ∀ (W' : WX) (pn : List (Addr × Obj)) (xe : Value → Shared → Prop), Takes (X.tr pn xe) W' → PassesOwn (model X.prog X.w) X.A X.env xe → DSs T (X.tr pn xe) W' np as ss mb) :
    DS T X W np as (.Try ss [.ExceptHandler (some (.Name x np')) (some n) [.Assign [.Name y py] (.Name n pn) pa] pos'] [] [] pos) (catchAs mb subs i j) := fun F H w σ ρ D O h => by
  refine fun pins s I => try_as (σ := σ) (H := H) (D := D) (Wout := W) hs hf hex c.nd hi hln hj hnd hncd hc tk (fun pn xe tk' po => ?_) pins s I
  refine hb _ pn xe tk' po F H w σ ρ D O ?_
  have hjl : j < σ.length := by rw [I.len]; exact (List.getElem?_eq_some_iff.mp hj.at_).1
  unfold catchAs at h
  cases em : mb ρ with
  | stuck => rw [em] at h; exact h
  | ok f ρ' => rw [em] at h; exact h
  | exc e ρ' =>
    rw [em] at h
    intro F' H' w' σ' O' s' k' cls d xd
    obtain ⟨rfl, hne, hds⟩ := xd
    refine ⟨_, hexm e.c hne, fun hc' a' ha' => ?_, fun hc' => ?_⟩
    · have h' : (if subs.contains e.c then Out.ok Fl.nx ((ρ'.set j (some (.dat (.exc e.c e.ds)))).set i none) else Out.exc e ρ').holds (KF T np F H w σ as D) (KXS T W F H w σ as) := h
      rw [if_pos hc'] at h'
      obtain ⟨O2, s2⟩ := newF_ok (o := exH (.ref (T.ea e.c)) d a') O' s' ha'
      have hle : Le F' (upd F' a' (exH (.ref (T.ea e.c)) d a')) := (newF_ok (o := exH (.ref (T.ea e.c)) d a') O' Sp2.refl ha').2.ext
      have rp : Rep T (upd F' a' (exH (.ref (T.ea e.c)) d a')) (.exc e.c e.ds) (.ref a') := by
        rcases hds with ⟨h1, h2⟩ | ⟨dd, us, h1, h2, h3, h4⟩
        · refine ⟨a', d, [], rfl, upd_same, .inl ⟨h1, h2⟩, ?_, hne⟩
          rw [h1]
          rfl
        · exact ⟨a', d, us, rfl, upd_same, .inr ⟨h4, dd, h1, hle _ _ h2⟩, Reps.mono hle _ _ h3, hne⟩
      obtain ⟨w3, O3, s3⟩ := put_ok (x := .dat (.exc e.c e.ds)) (i := j) O2 s2 rp (by rw [k'.1]; exact hjl)
      have es : ((σ'.set i (some (.ref a'))).set j (some (.ref a'))).set i none = (σ'.set j (some (.ref a'))).set i none := by
        rw [List.set_comm _ _ hij, List.set_set]
      rw [es]
      exact h' _ _ w3 _ (ok_none O3) s3 (k'.trans ((Kp.set hja).trans (Kp.set hia)))
    · have h' : (if subs.contains e.c then Out.ok Fl.nx ((ρ'.set j (some (.dat (.exc e.c e.ds)))).set i none) else Out.exc e ρ').holds (KF T np F H w σ as D) (KXS T W F H w σ as) := h
      rw [if_neg (by rw [hc']; exact Bool.false_ne_true)] at h'
      exact h' F' H' w' σ' O' s' k' _ d ⟨rfl, hne, hds⟩
end
end Dv
end
section
set_option Elab.async false
set_option maxRecDepth 100000
set_option linter.all false
/-! max with a default -/
namespace Dv
open PySem PySem.Spec L2
section
variable {T : Tb} {X : Cx} {W : WX} {e : Expr} {p pos : Pos}
theorem de_maxD (c : Ctx T X) {ma : M R} {d : Int} {j : Nat} {cp kp : Pos} (ha : DE T X W e ma) (hg : Gl X "max") (hm : X.mg "max" = none) (he : starEach [e] X.env = [(false, eval e X.env)]) :
    DE T X W (.Call (.Name "max" p) [e] [⟨some "default", .Constant (.int d) j cp, kp⟩] pos)
      ((ma.bnd fun r => ((M.ret (R.val (.dat (.int d)))).bnd fun r' => (M.ret []).bnd fun rs => M.ret (r' :: rs)).bnd fun rs => M.ret (r :: rs)).bnd fun rs => (getAllM rs).bnd fun xs => (M.opt (bi .maxD (xs.map FV.frz))).bnd fun z => M.ret (.val z)) := fun F H w σ ρ Q O h => by
  refine tw_of (pe_callBK (cr_maxDef c.calm c.un) hg hm rfl (pa_cons pe_tw pa_nil he) (pk_cons pe_int pk_nil) (by decide) (by decide) (by rw [he]; rfl) (by rw [he]; rfl)) ?_
  refine ha.run O Sp2.refl (bnd_holds h) fun r ρ1 F1 H1 w1 v h1 O1 s1 R1 => ?_
  obtain ⟨xs, ex, h3⟩ := optb (o := getAll [r, .val (.dat (.int d))] ρ1) h1
  obtain ⟨z, ez, h5⟩ := optb h3
  have cx : Cns T F1 H1 xs [v, .int d] := getAll_cns O1 (rs := [r, .val (.dat (.int d))]) ⟨v, _, rfl, R1, ⟨.int d, [], rfl, rfl, rfl⟩⟩ ex
  have hq := KR.out s1 h5
  have two : ∀ {a b : Dv.D}, xs.map FV.frz = [a, b] → ∃ x y, Cn T F1 H1 x v ∧ x.frz = a ∧ Cn T F1 H1 y (.int d) ∧ y.frz = b := fun e => by
    obtain ⟨x, y, rfl, e1, e2⟩ := map2 e
    obtain ⟨v', u, e3, c1, c2⟩ := cns2 cx
    cases e3
    exact ⟨x, y, c1, e1, c2, e2⟩
  obtain ⟨x, hx⟩ : ∃ x, xs.map FV.frz = [x, .int d] := by
    unfold getAll at ex
    split at ex
    · cases ex
      rename_i x xs' e1 e2
      cases e2
      exact ⟨x.frz, rfl⟩
    · cases ex
  obtain ⟨x', y', c1, e1, _, _⟩ := two hx
  rw [hx] at ez
  cases x with
  | lst ys =>
    obtain ⟨q, us, rfl, hl, rr⟩ := c1.list O1.sub e1
    have ez' : (match intsOf ys with
      | some (n :: ns) => some (FV.dat (.int (maxL n ns)))
      | some [] => some (FV.dat (.int d))
      | none => none) = some z := ez
    split at ez' <;> cases ez'
    · rename_i n ns ei
      have := intsOf_some ei
      subst this
      have := reps_ints rr
      subst this
      exact ⟨q, n :: ns, d, rfl, rfl, .of hl, out_pure O1 hq rfl⟩
    · rename_i ei
      have := intsOf_some ei
      subst this
      have := reps_ints rr
      subst this
      exact ⟨q, [], d, rfl, rfl, .of hl, out_pure O1 hq rfl⟩
  | _ => cases ez
end
end Dv
end
section
set_option Elab.async false
/-! Sorted lists of ints -/
namespace Dv
theorem lt_sorted_ext : ∀ {xs ys : List Int}, xs.Pairwise (· < ·) → ys.Pairwise (· < ·) → (∀ k, k ∈ xs ↔ k ∈ ys) → xs = ys
  | [], [], _, _, _ => rfl
  | [], y :: ys, _, _, h => by have := (h y).mpr List.mem_cons_self; cases this
  | x :: xs, [], _, _, h => by have := (h x).mp List.mem_cons_self; cases this
  | x :: xs, y :: ys, h1, h2, h => by
    obtain ⟨a1, a2⟩ := List.pairwise_cons.mp h1
    obtain ⟨b1, b2⟩ := List.pairwise_cons.mp h2
    have e : x = y := by
      rcases List.mem_cons.mp ((h x).mp List.mem_cons_self) with e | e
      · exact e
      · rcases List.mem_cons.mp ((h y).mpr List.mem_cons_self) with f | f
        · exact f.symm
        · have := a1 y f
          have := b1 x e
          omega
    subst e
    rw [lt_sorted_ext a2 b2 fun k => ⟨fun hk => ?_, fun hk => ?_⟩]
    · rcases List.mem_cons.mp ((h k).mp (List.mem_cons_of_mem _ hk)) with e | e
      · have := a1 k hk
        omega
      · exact e
    · rcases List.mem_cons.mp ((h k).mpr (List.mem_cons_of_mem _ hk)) with e | e
      · have := b1 k hk
        omega
      · exact e
theorem nodup_eraseDups (l : List Int) : l.eraseDups.Nodup := by
  induction h : l.length using Nat.strongRecOn generalizing l with
  | ind n ih =>
    cases l with
    | nil => simp
    | cons a l =>
      rw [List.eraseDups_cons]
      refine List.nodup_cons.mpr ⟨fun hm => ?_, ih _ ?_ _ rfl⟩
      · have := List.mem_eraseDups.mp hm
        simp at this
      · have := List.length_filter_le (fun b => !b == a) l
        simp only [List.length_cons] at h
        omega
theorem sortedSet_lt (ns : List Int) : (ns.eraseDups.mergeSort (fun i j => decide (i ≤ j))).Pairwise (· < ·) := by
  have p := List.pairwise_mergeSort (le := fun (i j : Int) => decide (i ≤ j)) (fun a b c x y => by simp at *; omega) (fun a b => by simp; omega) ns.eraseDups
  have nd : (ns.eraseDups.mergeSort (fun i j => decide (i ≤ j))).Nodup := (List.mergeSort_perm ..).nodup_iff.mpr (nodup_eraseDups ns)
  refine (List.Pairwise.and p nd).imp fun {a b} h => ?_
  have := h.1
  have := h.2
  simp at *
  omega
theorem sortedSet_eq {ns ms : List Int} (h1 : ms.Pairwise (· < ·)) (h2 : ∀ k, k ∈ ms ↔ k ∈ ns) : ms = ns.eraseDups.mergeSort (fun i j => decide (i ≤ j)) := by
  refine lt_sorted_ext h1 (sortedSet_lt ns) fun k => ?_
  rw [h2 k, (List.mergeSort_perm ..).mem_iff, List.mem_eraseDups]
theorem sortedSet_self {ns : List Int} (h : ns.Pairwise (· < ·)) : ns.eraseDups.mergeSort (fun i j => decide (i ≤ j)) = ns := (sortedSet_eq h fun _ => Iff.rfl).symm
end Dv
end
section
set_option Elab.async false
set_option maxRecDepth 100000
set_option linter.all false
/-! sorted(set(tuple of ints)) -/
namespace Dv
open PySem PySem.Spec L2
section
variable {X : Cx}
def tSortedSetT (K : PySem.W.Frag) (ta : TE) : TE := fun σ H Q => ta σ H fun x H1 => ∃ (l : Addr) (ns : List Int), x = .ref l ∧ SqT K H1 l (ns.map V.int) ∧ ns.length < 64 ∧
  ∀ (ms : List Int) (p : Addr), ms.Pairwise (· < ·) → (∀ k, k ∈ ms ↔ k ∈ ns) → H1 p = none → Q (.ref p) (upd H1 p (.lst (ms.map V.int)))
theorem pe_sortedSetT {a : Expr} {ta : TE} {p p2 q pos : Pos} (hc : X.calm = true) (hg : Gl X "sorted") (hm : X.mg "sorted" = none) (hg2 : Gl X "set") (hm2 : X.mg "set" = none) (ha : PE X a ta)
    (na : starEach [a] X.env = (false, eval a X.env) :: starEach [] X.env := by rfl) : PE X (.Call (.Name "sorted" p) [.Call (.Name "set" p2) [a] [] q] [] pos) (tSortedSetT X.K ta) := by
  refine ⟨fun pins s σ H Q I h => ?_⟩
  refine PyProof.Rows.Call_ (ld_blt I hg hm rfl ?_)
  refine PyProof.Rows.callWith_builtin1 (PyProof.Rows.args_cons ?_ rfl) rfl rfl
  refine PyProof.Rows.Call_ (ld_blt I hg2 hm2 PyProof.Rows.boot_set ?_)
  refine PyProof.Rows.callWith_type1 (PyProof.Rows.args_cons (thn (ha.run pins s σ H _ I h) fun v s1 ⟨x, H1, I1, r1, q1⟩ => PyProof.Rows.args_nil ?_) na) na rfl
  obtain ⟨l, ns, rfl, hq, h64, q1⟩ := q1
  cases r1
  obtain ⟨its, rv, pt, hz⟩ := I1.tuple hq
  have hi : PyProof.Rows.IntsAre its.toArray.toList ns := ints_of_vals rv
  have hd := I1.ok.hd hc
  refine call_set_tupI ns hd (show s1.heap.IsTuple l its.toArray from pt) hi (by unfold scanBound; omega) fun h' tk c R1 hcn k => ?_
  refine PyProof.Rows.args_nil ?_
  have I2 : Inv X pins σ H1 { s1 with heap := h', toks := tk } := I1.kept fun b o e => k b o e
  refine sorted_set R1 (I2.ok.hd hc) (by omega) fun s' p out c ns' k g o hp hg hi hs hm hl => ?_
  have hlen : (ns'.map V.int).length ≤ sizeLine := by rw [List.length_map, hl, PySem.sizeLine_eq]; omega
  have hn : H1 p = none := I2.hok.fresh hp
  obtain ⟨hh2, gg2, dd2, tt2, oo2⟩ := s'
  have go : gg2 = s1.gens := g
  have oo : oo2 = s1.os := o
  subst go oo
  have J := I2.call (h' := hh2) (g' := s1.gens) (d' := dd2) (t' := tt2) (ch := []) (Un.laid (o := .lst (ns'.map V.int)) k hp hn) (I2.hok.laid (o := .lst (ns'.map V.int)) k hp ⟨hlen, out.toList, c, vals_of_ints hi, hg⟩) I2.bare (fun _ z => nomatch z)
  exact ⟨.ref p, _, J, rfl, q1 ns' p hs (fun k => by rw [hm k, decide_eq_true_eq]) hn⟩
end
section
variable {T : Tb} {X : Cx} {W : WX} {e : Expr} {p p2 q pos : Pos}
theorem de_sortedSet (c : Ctx T X) {ma : M R} (ha : DE T X W e ma) (hg : Gl X "sorted") (hm : X.mg "sorted" = none) (hg2 : Gl X "set") (hm2 : X.mg "set" = none) (he : starEach [e] X.env = [(false, eval e X.env)]) :
    DE T X W (.Call (.Name "sorted" p) [.Call (.Name "set" p2) [e] [] q] [] pos)
      ((ma.bnd fun r => (M.ret []).bnd fun rs => M.ret (r :: rs)).bnd fun rs => (getAllM rs).bnd fun xs => (M.opt (bi .sortedSet (xs.map FV.frz))).bnd fun z => M.ret (.val z)) := fun F H w σ ρ Q O h => by
  refine tw_of (pe_sortedSetT c.calm hg hm hg2 hm2 pe_tw he) ?_
  refine ha.run O Sp2.refl (bnd_holds h) fun r ρ1 F1 H1 w1 v h1 O1 s1 R1 => ?_
  obtain ⟨xs, ex, h3⟩ := optb (o := getAll [r] ρ1) h1
  obtain ⟨z, ez, h5⟩ := optb h3
  have cx : Cns T F1 H1 xs [v] := getAll_cns O1 (rs := [r]) ⟨v, _, rfl, R1, rfl⟩ ex
  have hq := KR.out s1 h5
  obtain ⟨x, hx⟩ : ∃ x, xs.map FV.frz = [x] := by
    unfold getAll at ex
    split at ex
    · cases ex
      rename_i x xs' e1 e2
      cases e2
      exact ⟨x.frz, rfl⟩
    · cases ex
  obtain ⟨y, rfl, e1⟩ := map1 hx
  obtain ⟨v', e3, c1⟩ := cns1 cx
  cases e3
  rw [hx] at ez
  cases x with
  | tup ys =>
    obtain ⟨l, us, rfl, hl, rr⟩ := c1.tup O1.sub e1
    have ez' : (match intsOf ys with
      | some ns => if decide (ns.length < 64) then some (FV.lst ((ns.eraseDups.mergeSort (fun i j => decide (i ≤ j))).map Dv.D.int)) else none
      | none => none) = some z := ez
    split at ez'
    · rename_i ns ei
      split at ez' <;> cases ez'
      rename_i h64
      have := intsOf_some ei
      subst this
      have := reps_ints rr
      subst this
      rw [← c.K] at hl
      refine ⟨l, ns, rfl, O1.sub.t hl, of_decide_eq_true h64, fun ms p m1 m2 hp => ?_⟩
      rw [sortedSet_eq m1 m2]
      exact out_newL O1 hq (reps_of_ints _) p hp
    · cases ez'
  | _ => cases ez
end
end Dv
end
section
set_option Elab.async false
set_option maxRecDepth 100000
set_option linter.all false
/-! A def reached through its class: C.m(e, ..); a tuple whose object is known -/
namespace Dv
open PySem PySem.Spec L2
/-- a def of a class, read off the class -/
structure Up (K : PySem.W.Frag) (C : Addr) (m : Str) (g : Addr) : Prop where
  rd : PySem.W.readsIn K C (.type "type") = true
  ga : PySem.W.specialIn K (.ref C) "__getattribute__" = some (some (.builtin "type.__getattribute__"))
  at_ : PySem.W.findCls K (.ref C) (.type "type") m = some (.val (.ref g))
  kp : PySem.W.keepIn K (.ref g) = true
section
variable {T : Tb} {X : Cx} {W : WX} {F H F0 H0 F' H' : Hp} {w w0 w' : Wn} {σ : St} {ρ : En} {a b e o : Expr} {es : List Expr} {pos apos p : Pos} {as : List Ar} {vs : List V} {k : Nat} {φ : Fn} {g C : Addr} {x m : Str} {Q : VK}
theorem pe_callU {t : TA} (hg : Gl X x) (hm : X.mg x = some (.ref C)) (u : Up X.K C m g) (hbase : attributeBase (.Name x p) m X.env (eval (.Name x p) X.env) = eval (.Name x p) X.env)
    (hfew : methodCallForm ((e :: es).length + ([] : List Keyword).length) (PySem.backTo pos (starEach (e :: es) X.env)) (backToKw pos (keywordEach [] X.env)) = true) (hline : (apos.endLine == pos.line) = true) (hdb : (x == ("__debug__" : Str)) = false)
    (ha : PA X (e :: es) t) (hst : starEach (e :: es) X.env = (false, eval e X.env) :: starEach es X.env) (hpl : (PySem.backTo pos (starEach es X.env)).any (·.1) = false) :
    PE X (.Call (.Attribute (.Name x p) m apos) (e :: es) [] pos) (fun σ H Q => t σ H fun vs H1 => cS X σ (.ref g) vs H1 Q) := by
  refine ⟨fun pins s σ H Q I h => ?_⟩
  refine PySem.W.methodCall_KW (ld_glob I hg hm ?_ hdb) (meth_tree hbase hfew hline)
  refine PySem.W.method_cls I.kIn u.ga (PySem.W.cls_value I.kIn u.rd u.at_ rfl ?_)
  exact PySem.W.callWith_K (first := []) (h₀ := X.base) I.ok.mod.kin u.kp (thn (ha.run pos pins _ σ H _ (I.tok _) h) fun us s1 ⟨vs, H1, I1, r, q⟩ => ⟨I1.kIn, q pins s1 us I1 r⟩) hst hpl
theorem de_callU (tk : Takes X W) {ms : M (List Ar)} (hs : DL T (AOksR T) X W (e :: es) ms) (hf : FnC X T k φ g) (hr : Room k X.A) (hg : Gl X x) (hm : X.mg x = some (.ref C)) (u : Up X.K C m g) (hbase : attributeBase (.Name x p) m X.env (eval (.Name x p) X.env) = eval (.Name x p) X.env)
    (hfew : methodCallForm ((e :: es).length + ([] : List Keyword).length) (PySem.backTo pos (starEach (e :: es) X.env)) (backToKw pos (keywordEach [] X.env)) = true) (hline : (apos.endLine == pos.line) = true) (hdb : (x == ("__debug__" : Str)) = false)
    (he : starEach (e :: es) X.env = (false, eval e X.env) :: starEach es X.env) (hpl : (PySem.backTo pos (starEach es X.env)).any (·.1) = false) : DE T X W (.Call (.Attribute (.Name x p) m apos) (e :: es) [] pos) (ms.bnd fun as => callF φ as) := fun F H w σ ρ Q O h => by
  refine tw_of (pe_callU hg hm u hbase hfew hline hdb pa_twA he hpl) ?_
  refine hs.run O Sp2.refl h fun as ρ1 F1 H1 w1 vs h1 O1 s1 R1 => ?_
  exact cS_fn hf hr tk (sp_call O1 s1 R1 h1)
/-! ### a tuple's object -/
def tTpk (t : TA) : TE := fun σ H Q => t σ H fun xs H1 => xs.length ≤ sizeLine ∧ ∀ (q : Addr) (ob : Obj), ob.dict = none → H1 q = none → Q (.ref q) (upd H1 q (.frz ob (.tup xs)))
theorem pe_tpk {x1} {t : TA} (h : PA X es t) : PE X (.Tuple es x1 pos) (tTpk t) := by
  refine ⟨fun pins s σ H Q I hq => ?_⟩
  refine wpAny_Tuple_spliced (thn (h.run pos pins s σ H _ I hq) fun us s1 ⟨xs, H1, I1, r, z, q⟩ => ⟨by rw [← r.length]; exact z, ?_⟩)
  have hf : H1 s1.heap.objs.size = none := I1.hok.fresh (Nat.le_refl _)
  refine ⟨.ref s1.heap.objs.size, upd H1 s1.heap.objs.size (.frz { cls := .type "tuple", data := .seq us.toArray } (.tup xs)), I1.laid (t' := s1.toks) (fun b u e => Heap.get?_push_of_some _ e) (Nat.le_refl _) ?_, rfl, q _ _ rfl hf⟩
  exact ⟨Heap.get?_push_size _ rfl, z, us, r, ⟨_, Heap.get?_push_size _ rfl, rfl, _, rfl⟩⟩
theorem de_tpk {x1} {ms : M (List Dv.D)} (hs : DL T (RepA T) X W es ms) : DE T X W (.Tuple es x1 pos) (ms.bnd fun ds => if sz ds.length then M.ret (.val (.dat (.tpk ds))) else fun _ => .stuck) := fun F H w σ ρ Q O h => by
  refine tw_of (pe_tpk pa_twA) ?_
  refine hs.run O Sp2.refl h fun ds ρ1 F1 H1 w1 vs h1 O1 s1 R1 => ?_
  split at h1
  · rename_i hz
    exact ⟨by rw [Reps.len R1]; exact sz_le hz, out_newTp O1 (KR.out s1 h1) R1⟩
  · exact h1.elim
end
end Dv
end
section
set_option Elab.async false
set_option maxRecDepth 100000
set_option linter.all false
/-! Dict displays of constants that are read at once: {..}.get(k, d), {..}[k] -/
namespace Dv
open PySem PySem.Spec L2
def keyO : Dv.D → Option L2.Key
  | .int i => some (.inl i)
  | .str x => some (.inr x)
  | _ => none
def cV : Dv.D → V
  | .int i => .int i
  | .str x => .str x
  | .bl b => .bl b
  | _ => .non
def atomB : Dv.D → Bool
  | .int _ | .str _ | .bl _ | .non => true
  | _ => false
theorem cV_rep {T : Tb} {F : Hp} : ∀ {d : Dv.D}, atomB d = true → Rep T F d (cV d)
  | .int i, _ => rfl
  | .str i, _ => rfl
  | .bl i, _ => rfl
  | .non, _ => rfl
def cst : Dv.D → Expr → Bool
  | .int i, .Constant (.int j) _ _ => i == j
  | .str x, .Constant (.str y) _ _ => decide (x = y)
  | .bl a, .Constant (.bool b) _ _ => a == b
  | .non, .Constant .none _ _ => true
  | _, _ => false
theorem cst_ok {X : Cx} {d : Dv.D} {e : Expr} (h : cst d e = true) : PE X e (tC (cV d)) ∧ atomB d = true := by
  unfold cst at h
  split at h
  · have := eq_of_beq h
    subst this
    exact ⟨pe_int, rfl⟩
  · have := of_decide_eq_true h
    subst this
    exact ⟨pe_str, rfl⟩
  · have := eq_of_beq h
    subst this
    exact ⟨pe_bl, rfl⟩
  · exact ⟨pe_non, rfl⟩
  · cases h
def kvB : List (Dv.D × Dv.D) → List (Option Expr) → List Expr → Bool
  | [], [], [] => true
  | (k, v) :: r, some ke :: ks, ve :: vs => (keyO k).isSome && (cst k ke && (cst v ve && kvB r ks vs))
  | _, _, _ => false
def kvL : List (Dv.D × Dv.D) → List (L2.Key × V)
  | [] => []
  | (k, v) :: r => ((keyO k).getD (.inl 0), cV v) :: kvL r
theorem kV_key : ∀ {d : Dv.D}, (keyO d).isSome = true → kV ((keyO d).getD (.inl 0)) = cV d
  | .int i, _ => rfl
  | .str x, _ => rfl
theorem kvB_ok {X : Cx} {pos : Pos} : ∀ {kvs : List (Dv.D × Dv.D)} {ks : List (Option Expr)} {vs : List Expr}, kvB kvs ks vs = true →
    PPs X pos ks vs (kvs.map fun p => (tC (cV p.1), tC (cV p.2))) ∧ ks.all (·.isSome) = true ∧ ks.length = vs.length ∧ ks.length = kvs.length ∧ (kvs.map fun p => (cV p.1, cV p.2)) = (kvL kvs).map (fun kv => (kV kv.1, kv.2)) ∧ ∀ p ∈ kvs, atomB p.2 = true
  | [], [], [], _ => ⟨pps_nil, rfl, rfl, rfl, rfl, fun _ z => nomatch z⟩
  | (k, v) :: r, some ke :: ks, ve :: vs, h => by
    have h : ((keyO k).isSome && (cst k ke && (cst v ve && kvB r ks vs))) = true := h
    rw [Bool.and_eq_true, Bool.and_eq_true, Bool.and_eq_true] at h
    obtain ⟨h0, h1, h2, h3⟩ := h
    obtain ⟨i1, i2, i3, i4, i5, i6⟩ := kvB_ok (X := X) (pos := pos) h3
    refine ⟨pps_cons (cst_ok h1).1 (cst_ok h2).1 i1, by rw [List.all_cons, i2]; rfl, by rw [List.length_cons, List.length_cons, i3], by rw [List.length_cons, List.length_cons, i4], ?_, fun p hp => ?_⟩
    · show (cV k, cV v) :: _ = (kV ((keyO k).getD (.inl 0)), cV v) :: _
      rw [i5, kV_key h0]
    · rcases List.mem_cons.mp hp with rfl | hp
      · exact (cst_ok (X := X) h2).2
      · exact i6 p hp
theorem tPairs_c {σ : St} {Q : List (V × V) → Hp → Prop} : ∀ {l : List (V × V)} {H : Hp}, Q l H → tPairs (l.map fun p => (tC p.1, tC p.2)) σ H Q
  | [], H, h => h
  | p :: r, H, h => tPairs_c (l := r) (Q := fun ps H3 => Q (p :: ps) H3) h
theorem valV_merge {κ : Type} [DecidableEq κ] (k : L2.Key) : ∀ (more acc : List (L2.Key × V)), (more.map (·.1)).Nodup → valV (mergeK acc more) k = match valV more k with
    | some v => some v
    | none => valV acc k
  | [], acc, _ => rfl
  | p :: r, acc, nd => by
    rw [List.map_cons] at nd
    obtain ⟨n1, n2⟩ := List.nodup_cons.mp nd
    have e : mergeK acc (p :: r) = mergeK (putK acc p.1 p.2) r := rfl
    rw [e, valV_merge (κ := κ) k r _ n2, valV_put]
    by_cases h : p.1 = k
    · have hn : valV r k = none := by
        cases hv : valV r k with
        | none => rfl
        | some v =>
          exfalso
          have := valV_any k r
          rw [hv] at this
          obtain ⟨q, hq, eq⟩ := List.any_eq_true.mp this
          exact n1 (List.mem_map.mpr ⟨q, hq, (of_decide_eq_true eq).trans h.symm⟩)
      rw [hn, valV_pos h, if_pos h.symm]
    · rw [valV_neg h]
      cases valV r k with
      | some v => rfl
      | none => simp only [if_neg (Ne.symm h)]
theorem keyD_ok : ∀ {kvs : List (Dv.D × Dv.D)} {d : Dv.D} {o : Option Dv.D}, keyD kvs d = some o → (∀ p ∈ kvs, (keyO p.1).isSome = true) → kvs ≠ [] → ∃ k, keyO d = some k ∧ valV (kvL kvs) k = o.map cV ∧ ∀ v, o = some v → ∃ p ∈ kvs, p.2 = v
  | (a, v) :: r, d, o, h, hk, _ => by
    have ha := hk (a, v) List.mem_cons_self
    have step : ∀ {k : L2.Key}, keyO d = some k → (∀ k', keyO a = some k' → k' ≠ k → keyD r d = some o) → (keyO a = some k → o = some v) → ∃ k, keyO d = some k ∧ valV (kvL ((a, v) :: r)) k = o.map cV ∧ ∀ v', o = some v' → ∃ p ∈ (a, v) :: r, p.2 = v' := fun {k} ed h1 h2 => by
      refine ⟨k, ed, ?_⟩
      cases ea : keyO a with
      | none => rw [ea] at ha; cases ha
      | some k' =>
        by_cases e : k' = k
        · subst e
          have := h2 ea
          subst this
          refine ⟨?_, fun v' ev => ⟨(a, v), List.mem_cons_self, by cases ev; rfl⟩⟩
          show valV (((keyO a).getD (.inl 0), cV v) :: kvL r) k' = _
          rw [valV_pos (by rw [ea]; rfl)]
          rfl
        · have h3 := h1 k' ea e
          have hv : valV (kvL ((a, v) :: r)) k = valV (kvL r) k := by
            show valV (((keyO a).getD (.inl 0), cV v) :: kvL r) k = _
            rw [valV_neg (by rw [ea]; exact e)]
          rw [hv]
          by_cases hr : r = []
          · subst hr
            have : o = none := by
              have h3' : some none = some o := h3
              injection h3' with h3'
              exact h3'.symm
            subst this
            exact ⟨rfl, fun _ z => nomatch z⟩
          · obtain ⟨k2, e2, e3, e4⟩ := keyD_ok h3 (fun p hp => hk p (List.mem_cons_of_mem _ hp)) hr
            rw [ed] at e2
            cases e2
            exact ⟨e3, fun v' ev => let ⟨p, hp, ep⟩ := e4 v' ev; ⟨p, List.mem_cons_of_mem _ hp, ep⟩⟩
    cases a with
    | str x =>
      cases d with
      | str y =>
        have h' : (if x = y then some (some v) else keyD r (.str y)) = some o := h
        refine step rfl (fun k' e1 e2 => ?_) fun e1 => ?_
        · cases e1
          rw [if_neg (fun z => e2 (by rw [z]))] at h'
          exact h'
        · cases e1
          rw [if_pos rfl] at h'
          injection h' with h'
          exact h'.symm
      | _ => cases h
    | int x =>
      cases d with
      | int y =>
        have h' : (if x = y then some (some v) else keyD r (.int y)) = some o := h
        refine step rfl (fun k' e1 e2 => ?_) fun e1 => ?_
        · cases e1
          rw [if_neg (fun z => e2 (by rw [z]))] at h'
          exact h'
        · cases e1
          rw [if_pos rfl] at h'
          injection h' with h'
          exact h'.symm
      | _ => cases h
    | _ => cases h
theorem kvB_atoms : ∀ {kvs : List (Dv.D × Dv.D)} {ks : List (Option Expr)} {vs : List Expr}, kvB kvs ks vs = true → ∀ p ∈ kvs, atomB p.2 = true
  | (k, v) :: r, some ke :: ks, ve :: vs, h, p, hp => by
    have h : ((keyO k).isSome && (cst k ke && (cst v ve && kvB r ks vs))) = true := h
    rw [Bool.and_eq_true, Bool.and_eq_true, Bool.and_eq_true] at h
    rcases List.mem_cons.mp hp with rfl | hp
    · have h2 := h.2.2.1
      unfold cst at h2
      split at h2 <;> first | rfl | cases h2
    · exact kvB_atoms h.2.2.2 p hp
/-- what is asked of a display -/
def dispB (kvs : List (Dv.D × Dv.D)) (ks : List (Option Expr)) (vs : List Expr) : Bool := kvB kvs ks vs && (!kvs.isEmpty && (decide (kvs.length ≤ 15) && decide ((kvL kvs).map (·.1)).Nodup))
theorem kvB_keys : ∀ {kvs : List (Dv.D × Dv.D)} {ks : List (Option Expr)} {vs : List Expr}, kvB kvs ks vs = true → ∀ p ∈ kvs, (keyO p.1).isSome = true
  | (k, v) :: r, some ke :: ks, ve :: vs, h, p, hp => by
    have h : ((keyO k).isSome && (cst k ke && (cst v ve && kvB r ks vs))) = true := h
    rw [Bool.and_eq_true, Bool.and_eq_true, Bool.and_eq_true] at h
    rcases List.mem_cons.mp hp with rfl | hp
    · exact h.1
    · exact kvB_keys h.2.2.2 p hp
theorem upd_twice {H : Hp} {p : Addr} {a b : HO} : upd (upd H p a) p b = upd H p b := by
  funext c
  by_cases h : c = p
  · subst h
    rw [upd_same, upd_same]
  · rw [upd_ne h, upd_ne h, upd_ne h]
section
variable {T : Tb} {X : Cx} {W : WX} {F H F0 H0 F' H' : Hp} {w w0 w' : Wn} {σ : St} {ρ : En} {ke de : Expr} {ks : List (Option Expr)} {vals : List Expr} {pos apos p dpos : Pos} {kvs : List (Dv.D × Dv.D)}
theorem pe_dispC (h : dispB kvs ks vals = true) : PE X (.Dict ks vals dpos) (fun σ H Q => ∀ q, H q = none → Q (.ref q) (upd H q (.dK (mergeK [] (kvL kvs))))) := by
  unfold dispB at h
  rw [Bool.and_eq_true, Bool.and_eq_true, Bool.and_eq_true] at h
  obtain ⟨h1, h2, h3, h4⟩ := h
  obtain ⟨i1, i2, i3, i4, i5, i6⟩ := kvB_ok (X := X) (pos := dpos) h1
  have hl := of_decide_eq_true h3
  have ne : ks ≠ [] := fun z => by
    rw [z] at i4
    cases kvs with
    | nil => cases h2
    | cons a r => cases i4
  have P := pe_disp i1 i2 i3 ne (by omega)
  refine ⟨fun pins s σ H Q I q => P.run pins s σ H Q I fun a ha => ?_⟩
  have := tPairs_c (l := kvs.map fun p => (cV p.1, cV p.2)) (σ := σ) (H := upd H a (.dK [])) (Q := fun ps H2 => H2 a = some (.dK []) ∧ ∃ kvs : List (L2.Key × V), ps = kvs.map (fun kv => (kV kv.1, kv.2)) ∧ kvs.length ≤ 15 ∧ Q (.ref a) (upd H2 a (.dK (mergeK [] kvs)))) ⟨upd_same, kvL kvs, i5, by
    have e := congrArg List.length i5
    rw [List.length_map, List.length_map] at e
    omega, by rw [upd_twice]; exact q a ha⟩
  rw [List.map_map] at this
  exact this
theorem disp_get (h : dispB kvs ks vals = true) {d : Dv.D} {o : Option Dv.D} (hk : keyD kvs d = some o) {q : Addr} (hq : H q = some (.dK (mergeK [] (kvL kvs)))) {v : V} (rv : Rep T F d v) : DGet H q v (o.map cV) ∧ ∀ v', o = some v' → atomB v' = true := by
  unfold dispB at h
  rw [Bool.and_eq_true, Bool.and_eq_true, Bool.and_eq_true] at h
  obtain ⟨h1, h2, h3, h4⟩ := h
  have ne : kvs ≠ [] := fun z => by
    subst z
    cases h2
  obtain ⟨k, e1, e2, e3⟩ := keyD_ok hk (kvB_keys h1) ne
  have ev : v = kV k := by
    cases d with
    | int i => cases e1; exact rv
    | str i => cases e1; exact rv
    | _ => cases e1
  have e4 := valV_merge (κ := Nat) k (kvL kvs) [] (of_decide_eq_true h4)
  refine ⟨?_, fun v' e => let ⟨p, hp, ep⟩ := e3 v' e; ep ▸ kvB_atoms h1 p hp⟩
  have := DGet.k (k := k) hq
  rw [← ev, e4, e2] at this
  cases o with
  | none => exact this
  | some v' => exact this
theorem de_dget (c : Ctx T X) (h : dispB kvs ks vals = true) {mk md : M R} (hk : DE T X W ke mk) (hd : DE T X W de md) (m2 : M2 X (.Dict ks vals dpos) "get" apos ke de pos) :
    DE T X W (.Call (.Attribute (.Dict ks vals dpos) "get" apos) [ke, de] [] pos) (mk.bnd fun r => md.bnd fun q => (getM r).bnd fun x => (getM q).bnd fun y => (M.opt (keyD kvs x.frz)).bnd fun o => match o with
    | some v => M.ret (.val (.dat v))
    | none => match y with
      | .dat d => M.ret (.val (.dat d))
      | _ => fun _ => .stuck) := fun F H w σ ρ Q O hh => by
  refine tw_of (pe_dget2 (by have := c.un; omega) (pe_dispC h) pe_tw pe_tw m2) ?_
  intro q hq
  obtain ⟨O0, s0, hf, hw, _⟩ := newH_ok (o := .dK (mergeK [] (kvL kvs))) O Sp2.refl hq
  refine ⟨q, rfl, .inl ⟨_, .inl upd_same⟩, ?_⟩
  refine hk.run O0 s0 hh fun r ρ1 F1 H1 w1 v h1 O1 s1 R1 => ?_
  refine hd.run O1 (s0.trans s1) h1 fun q2 ρ2 F2 H2 w2 u h2 O2 s2 R2 => ?_
  obtain ⟨x, ex, h3⟩ := get_holds h2
  obtain ⟨y, ey, h4⟩ := get_holds h3
  obtain ⟨o, eo, h5⟩ := optb h4
  have at1 : H1 q = some (.dK (mergeK [] (kvL kvs))) := s1.same _ _ upd_same hw
  have w1q : w1 q = none := s1.nw (some_ne (upd_same (H := H) (a := q) (o := .dK (mergeK [] (kvL kvs))))) hw
  have at2 := s2.same _ _ at1 w1q
  have cx := (R1.step s2).cn O2 ex
  have rv : ∃ v', Rep T H2 x.frz v' ∧ v' = v := ⟨v, cx.rep O2.sub, rfl⟩
  obtain ⟨v', rv, rfl⟩ := rv
  obtain ⟨g1, g2⟩ := disp_get h eo at2 rv
  refine ⟨_, g1, ?_⟩
  cases o with
  | some v2 =>
    exact KR.pure O2 ((s0.trans s1).trans s2) h5 (cV_rep (g2 _ rfl))
  | none =>
    cases y with
    | dat d => exact KR.pure O2 ((s0.trans s1).trans s2) h5 (R2.cn O2 ey)
    | lst ds => exact h5.elim
theorem de_dix (c : Ctx T X) (h : dispB kvs ks vals = true) {mk : M R} (hk : DE T X W ke mk) (hs : PlainIx ke) :
    DE T X W (.Subscript (.Dict ks vals dpos) ke pos) (mk.bnd fun r => (getM r).bnd fun x => (M.opt ((keyD kvs x.frz).bind id)).bnd fun v => M.ret (.val (.dat v))) := fun F H w σ ρ Q O hh => by
  refine tw_of (pe_dget (by have := c.un; omega) (pe_dispC h) pe_tw hs) ?_
  intro q hq
  obtain ⟨O0, s0, hf, hw, _⟩ := newH_ok (o := .dK (mergeK [] (kvL kvs))) O Sp2.refl hq
  refine hk.run O0 s0 hh fun r ρ1 F1 H1 w1 v h1 O1 s1 R1 => ?_
  obtain ⟨x, ex, h3⟩ := get_holds h1
  obtain ⟨v2, eo, h5⟩ := optb h3
  have at1 : H1 q = some (.dK (mergeK [] (kvL kvs))) := s1.same _ _ upd_same hw
  have cx := R1.cn O1 ex
  cases ek : keyD kvs x.frz with
  | none => rw [ek] at eo; cases eo
  | some o =>
    rw [ek] at eo
    have eo' : o = some v2 := eo
    subst eo'
    obtain ⟨g1, g2⟩ := disp_get h ek at1 (cx.rep O1.sub)
    exact ⟨q, _, rfl, g1, KR.pure O1 (s0.trans s1) h5 (cV_rep (g2 _ rfl))⟩
end
end Dv
end
section
set_option Elab.async false
set_option maxRecDepth 100000
set_option linter.all false
/-! list(range(..)), sorted(list of ints) -/
namespace Dv
open PySem PySem.Spec L2
theorem rgV_rep {T : Tb} {F : Hp} {a : Int} : ∀ (n : Nat) (f g : Nat → Int), (∀ i, f i = g i) → Reps T F ((List.range n).map fun i => Dv.D.int (f i)) ((List.range n).map fun i => V.int (g i)) := fun n f g h => by
  have e : ((List.range n).map fun i => V.int (g i)) = ((List.range n).map f).map V.int := by
    rw [List.map_map]
    exact List.map_congr_left fun i _ => by rw [← h i]; rfl
  have e2 : ((List.range n).map fun i => Dv.D.int (f i)) = ((List.range n).map f).map Dv.D.int := by rw [List.map_map]; rfl
  rw [e, e2]
  exact reps_of_ints _
theorem rngD_rep {T : Tb} {F : Hp} {a b : Int} : Reps T F (rngD a (b - a).toNat 1) (rgV a b) := rgV_rep (a := a) _ (fun i => a + (i : Int) * 1) (fun i => a + (i : Int)) fun i => by omega
theorem le_sorted_ext : ∀ {xs ys : List Int}, xs.Pairwise (· ≤ ·) → ys.Pairwise (· ≤ ·) → xs.Perm ys → xs = ys
  | [], ys, _, _, p => p.nil_eq
  | x :: xs, [], _, _, p => absurd p.length_eq (by simp)
  | x :: xs, y :: ys, h1, h2, p => by
    obtain ⟨a1, a2⟩ := List.pairwise_cons.mp h1
    obtain ⟨b1, b2⟩ := List.pairwise_cons.mp h2
    have e : x = y := by
      have hx : x ∈ y :: ys := p.mem_iff.mp List.mem_cons_self
      have hy : y ∈ x :: xs := p.mem_iff.mpr List.mem_cons_self
      rcases List.mem_cons.mp hx with e | e
      · exact e
      · rcases List.mem_cons.mp hy with f | f
        · exact f.symm
        · have := a1 y f
          have := b1 x e
          omega
    subst e
    rw [le_sorted_ext a2 b2 (List.Perm.cons_inv p)]
theorem sort_eq {ns ms : List Int} (h1 : ms.Pairwise (· ≤ ·)) (h2 : ms.Perm ns) : ms = ns.mergeSort (fun i j => decide (i ≤ j)) := by
  refine le_sorted_ext h1 ?_ (h2.trans (List.mergeSort_perm ..).symm)
  have p := List.pairwise_mergeSort (le := fun (i j : Int) => decide (i ≤ j)) (fun a b c x y => by simp at *; omega) (fun a b => by simp; omega) ns
  exact p.imp fun {a b} h => of_decide_eq_true h
section
variable {T : Tb} {X : Cx} {W : WX} {F H F0 H0 F' H' : Hp} {w w0 w' : Wn} {σ : St} {ρ : En} {e e2 : Expr} {p p2 pos pos2 : Pos}
theorem de_lstRg1 (c : Ctx T X) {ma : M R} (ha : DE T X W e ma) (hg : Gl X "list") (hm : X.mg "list" = none) (hg2 : Gl X "range") (hm2 : X.mg "range" = none) (he : starEach [e] X.env = [(false, eval e X.env)])
    (he2 : starEach [.Call (.Name "range" p2) [e] [] pos2] X.env = [(false, eval (.Call (.Name "range" p2) [e] [] pos2) X.env)]) :
    DE T X W (.Call (.Name "list" p) [.Call (.Name "range" p2) [e] [] pos2] [] pos) ((ma.bnd fun r => (getM r).bnd fun x => (M.opt (asInt x)).bnd fun j => if rngOk 0 j then M.ret (rngD 0 j.toNat 1) else fun _ => .stuck).bnd fun ds =>
      if sz ds.length then (if true then M.ret (.val (.lst ds)) else M.ret (.val (.dat (.tup ds)))) else fun _ => .stuck) := fun F H w σ ρ Q O h => by
  refine tw_of (pe_listRg c.calm hg hm (prg_1 hg2 hm2 pe_tw he) he2) ?_
  refine ha.run O Sp2.refl (bnd_holds h) fun r ρ1 F1 H1 w1 v h1 O1 s1 R1 => ?_
  obtain ⟨x, ex, h2⟩ := get_holds h1
  obtain ⟨j, ej, h3⟩ := optb h2
  have e1 := (R1.cn O1 ex).int (i := j) (by rw [asInt_int ej]; rfl)
  subst e1
  split at h3
  · rename_i hr
    obtain ⟨_, _, r3, r4⟩ := rngOk_ok hr
    have h4 : ((if sz (rngD 0 j.toNat 1).length then (if true then M.ret (R.val (.lst (rngD 0 j.toNat 1))) else M.ret (.val (.dat (.tup (rngD 0 j.toNat 1))))) else fun _ => .stuck : M R) ρ1).holds _ _ := h3
    split at h4
    · rename_i hz
      have hl : (rngD 0 j.toNat 1).length ≤ 16000000 := of_decide_eq_true hz
      have hl2 : (rngD 0 j.toNat 1).length = j.toNat := by unfold rngD; rw [List.length_map, List.length_range]
      refine ⟨j, rfl, ⟨by decide, by decide, r3, r4, by omega⟩, fun q hq => out_newL O1 (KR.out s1 h4) ?_ q hq⟩
      have := rngD_rep (T := T) (F := F1) (a := 0) (b := j)
      rw [Int.sub_zero] at this
      exact this
    · exact h4.elim
  · exact h3.elim
theorem de_sortedL (c : Ctx T X) {ma : M R} (ha : DE T X W e ma) (hg : Gl X "sorted") (hm : X.mg "sorted" = none) (he : starEach [e] X.env = [(false, eval e X.env)]) :
    DE T X W (.Call (.Name "sorted" p) [e] [] pos) ((ma.bnd fun r => (M.ret []).bnd fun rs => M.ret (r :: rs)).bnd fun rs => (getAllM rs).bnd fun xs => (M.opt (bi .sorted (xs.map FV.frz))).bnd fun z => M.ret (.val z)) := fun F H w σ ρ Q O h => by
  refine tw_of (pe_callB cr_sorted hg hm rfl (pa_cons pe_tw pa_nil he) (by decide) (by decide) he rfl) ?_
  refine ha.run O Sp2.refl (bnd_holds h) fun r ρ1 F1 H1 w1 v h1 O1 s1 R1 => ?_
  obtain ⟨xs, ex, h3⟩ := optb (o := getAll [r] ρ1) h1
  obtain ⟨z, ez, h5⟩ := optb h3
  have cx : Cns T F1 H1 xs [v] := getAll_cns O1 (rs := [r]) ⟨v, _, rfl, R1, rfl⟩ ex
  have hq := KR.out s1 h5
  obtain ⟨x, hx⟩ : ∃ x, xs.map FV.frz = [x] := by
    unfold getAll at ex
    split at ex
    · cases ex
      rename_i x xs' e1 e2
      cases e2
      exact ⟨x.frz, rfl⟩
    · cases ex
  rw [hx] at ez
  cases x with
  | lst ys =>
    obtain ⟨y, rfl, e1⟩ := map1 hx
    obtain ⟨v', e3, c1⟩ := cns1 cx
    cases e3
    obtain ⟨l, us, rfl, hl, rr⟩ := c1.list O1.sub e1
    have ez' : (match intsOf ys with
      | some ns => if decide (ns.length < 64) then some (FV.lst ((ns.mergeSort (fun i j => decide (i ≤ j))).map Dv.D.int)) else none
      | none => none) = some z := ez
    split at ez'
    · rename_i ns ei
      split at ez' <;> cases ez'
      rename_i h64
      have := intsOf_some ei
      subst this
      have := reps_ints rr
      subst this
      refine ⟨l, ns, rfl, .of hl, of_decide_eq_true h64, fun ms q m1 m2 hp => ?_⟩
      rw [sort_eq m2 m1]
      exact out_newL O1 hq (reps_of_ints _) q hp
    · cases ez'
  | _ => cases ez
end
end Dv
end
section
set_option Elab.async false
set_option maxRecDepth 100000
set_option linter.all false
/-! list(zip(t, u)) of two tuples -/
namespace Dv
open PySem PySem.W PySem.Calls PyProof.Rows RZ
section
variable {prog : Program} {w : World} {A : Around} {E : Value → Shared → Prop} {s : Shared} {z TI TO T p q lp lq : Addr} {fl : Bool} {ob : Obj} {kp kq : Nat} {us vs : Array Value} {u v : Value}
/-- the next pair while the last one is still out -/
theorem zh_item {Q : Option Value → Shared → Prop} (D : ZipApart z TI TO p q lp lq) (hz : IsZipHeld s.heap z TI TO T fl) (hT : s.heap.get? T = some ob) (hTI : IsPair s.heap TI (.ref p) (.ref q))
    (hp : s.heap.IsTupleIter p lp kp) (hq : s.heap.IsTupleIter q lq kq) (ha : s.heap.IsTuple lp us) (hb : s.heap.IsTuple lq vs) (hu : us[kp]? = some u) (hv : vs[kq]? = some v)
    (k : ∀ g : Heap, IsZipHeld g z TI TO T true → g.IsTupleIter p lp (kp + 1) → g.IsTupleIter q lq (kq + 1) → IsPair g s.heap.objs.size u v → g.objs.size = s.heap.objs.size + 1 →
      (∀ c o, c ≠ z → c ≠ p → c ≠ q → s.heap.get? c = some o → g.get? c = some o) → Q (some (.ref s.heap.objs.size)) { s with heap := g }) :
    wpAny (model prog w) A (pyNext (.ref z)) Q E s := by
  have ty : s.TypeIs (.ref z) "zip" := ⟨_, hz, rfl⟩
  have core : ∀ (B : Around) (E2 : Value → Shared → Prop), wpAny (model prog w) B (Builtin.«zip.__next__» ⟨[.ref z], []⟩) (fun fin t => ∃ x, fin = .done (.ret x) ∧ Q (some x) t) E2 s := fun B E2 => by
    show wpAny _ _ (field (.ref z) 2 >>= _) _ _ _
    refine wpAny_bind (wpAny_field hz rfl (x := .bool false) rfl ?_)
    show wpAny _ _ (field (.ref z) 3 >>= _) _ _ _
    refine wpAny_bind (wpAny_field hz rfl (x := .ref TI) rfl ?_)
    refine wpAny_bind (wpAny_seqItems hTI rfl ?_)
    show wpAny _ _ (Builtin.SmallTypes.ownedTupleIsFree (.ref z) >>= _) _ _ _
    refine wpAny_bind (wpAny_tupleHeld_zip hz hT fun g1 z1 e1 => ?_)
    simp only [Bool.false_eq_true, if_false]
    refine wpAny_bind ?_
    rw [← Array.forIn_toList]
    simp only [List.forIn_cons, List.forIn_nil]
    refine wpAny_bind (wpAny_bind (wpAny_holding ?_))
    show wpAny _ _ (Builtin.SmallTypes.nextOf (.ref p) >>= _) _ _ _
    refine wpAny_bind (nextOf_tuple_item (s := { s with heap := g1 }) (hp.extBut e1.extBut D.i1z) (ha.extBut e1.extBut D.l1z) hu fun g2 p2 e2 => wpAny_pure ?_)
    refine wpAny_pure ?_
    refine wpAny_bind (wpAny_bind (wpAny_holding ?_))
    show wpAny _ _ (Builtin.SmallTypes.nextOf (.ref q) >>= _) _ _ _
    refine wpAny_bind (nextOf_tuple_item (s := { s with heap := g2 }) ((hq.extBut e1.extBut D.i2z).extBut e2.extBut D.i12.symm) ((hb.extBut e1.extBut D.l2z).extBut e2.extBut D.l2i1) hv fun g3 q3 e3 => wpAny_pure ?_)
    refine wpAny_pure (wpAny_pure ?_)
    show wpAny _ _ (newTuple [u, v] >>= _) _ _ _
    refine wpAny_bind (wpAny_newTuple ?_)
    have es : g3.objs.size = s.heap.objs.size := by rw [e3.1, e2.1, e1.1]
    have z3 : IsZipHeld g3 z TI TO T true := e3.extBut _ _ D.i2z.symm (e2.extBut _ _ D.i1z.symm z1)
    have kk : ∀ c o, c ≠ z → c ≠ p → c ≠ q → s.heap.get? c = some o → g3.get? c = some o := fun c o c1 c2 c3 e => e3.extBut _ _ c3 (e2.extBut _ _ c2 (e1.extBut _ _ c1 e))
    have p3 : g3.IsTupleIter p lp (kp + 1) := p2.extBut e3.extBut D.i12
    refine wpAny_pure ⟨_, rfl, ?_⟩
    show Q (some (.ref g3.objs.size)) _
    have np : IsPair (g3.push { cls := .type "tuple", data := .seq #[u, v] }) g3.objs.size u v := Heap.get?_push_size _ rfl
    have ns : (g3.push { cls := .type "tuple", data := .seq #[u, v] }).objs.size = g3.objs.size + 1 := Heap.size_push ..
    rw [es] at np ns ⊢
    exact k _ (Heap.get?_push_of_some _ z3) (p3.at fun o e => Heap.get?_push_of_some _ e) (q3.at fun o e => Heap.get?_push_of_some _ e) np ns fun c o c1 c2 c3 e => Heap.get?_push_of_some _ (kk c o c1 c2 c3 e)
  unfold pyNext
  exact wpAny_bind (wpAny_attempt (wpAny_callSpecial?_slot (name := Str.ofString "__next__") ty F.slot_zip_next
    (wpAny_call_entry F.slot_zip_next ty F.entry_zip_next (wpAny_mono (core _ _) (fun fin t ⟨x, e, h⟩ => ⟨x, e, wpAny_pure h⟩) fun _ _ h => h) (F.args_zip_next_1 _))))
theorem zh_end {Q : Option Value → Shared → Prop} (hh : A.handled = none) (D : ZipApart z TI TO p q lp lq) (hz : IsZipHeld s.heap z TI TO T fl) (hT : s.heap.get? T = some ob) (hTI : IsPair s.heap TI (.ref p) (.ref q))
    (hp : s.heap.IsTupleIter p lp kp) (hq : s.heap.IsTupleIter q lq kq) (ha : s.heap.IsTuple lp us) (hb : s.heap.IsTuple lq vs) (he : us[kp]? = none ∨ vs[kq]? = none)
    (k : ∀ g : Heap, (∀ c o, c ≠ z → c ≠ p → c ≠ q → s.heap.get? c = some o → g.get? c = some o) → Q none { s with heap := g }) :
    wpAny (model prog w) A (pyNext (.ref z)) Q E s := by
  have ty : s.TypeIs (.ref z) "zip" := ⟨_, hz, rfl⟩
  have core : ∀ (B : Around) (Q2 : Fin → Shared → Prop) (E2 : Value → Shared → Prop), B.handled = none → (∀ (g : Heap) (e : Addr), (∀ c o, c ≠ z → c ≠ p → c ≠ q → s.heap.get? c = some o → g.get? c = some o) → (∃ o, g.get? e = some o ∧ o.cls = .type "StopIteration") → E2 (.ref e) { s with heap := g }) →
      wpAny (model prog w) B (Builtin.«zip.__next__» ⟨[.ref z], []⟩) Q2 E2 s := fun B Q2 E2 hB hE => by
    show wpAny _ _ (field (.ref z) 2 >>= _) _ _ _
    refine wpAny_bind (wpAny_field hz rfl (x := .bool false) rfl ?_)
    show wpAny _ _ (field (.ref z) 3 >>= _) _ _ _
    refine wpAny_bind (wpAny_field hz rfl (x := .ref TI) rfl ?_)
    refine wpAny_bind (wpAny_seqItems hTI rfl ?_)
    show wpAny _ _ (Builtin.SmallTypes.ownedTupleIsFree (.ref z) >>= _) _ _ _
    refine wpAny_bind (wpAny_tupleHeld_zip hz hT fun g1 z1 e1 => ?_)
    simp only [Bool.false_eq_true, if_false]
    refine wpAny_bind ?_
    rw [← Array.forIn_toList]
    simp only [List.forIn_cons, List.forIn_nil]
    refine wpAny_bind (wpAny_bind (wpAny_holding ?_))
    show wpAny _ _ (Builtin.SmallTypes.nextOf (.ref p) >>= _) _ _ _
    cases hu : us[kp]? with
    | none =>
      refine wpAny_bind (nextOf_tuple_end (s := { s with heap := g1 }) hB (hp.extBut e1.extBut D.i1z) (ha.extBut e1.extBut D.l1z) hu fun g2 e e2 he2 => ?_)
      exact hE g2 e (fun c o c1 c2 _ x => e2 _ _ c2 (e1.extBut _ _ c1 x)) he2
    | some u =>
      have hv : vs[kq]? = none := by
        rcases he with h | h
        · rw [hu] at h
          cases h
        · exact h
      refine wpAny_bind (nextOf_tuple_item (s := { s with heap := g1 }) (hp.extBut e1.extBut D.i1z) (ha.extBut e1.extBut D.l1z) hu fun g2 p2 e2 => wpAny_pure ?_)
      refine wpAny_pure ?_
      refine wpAny_bind (wpAny_bind (wpAny_holding ?_))
      show wpAny _ _ (Builtin.SmallTypes.nextOf (.ref q) >>= _) _ _ _
      refine wpAny_bind (nextOf_tuple_end (s := { s with heap := g2 }) hB ((hq.extBut e1.extBut D.i2z).extBut e2.extBut D.i12.symm) ((hb.extBut e1.extBut D.l2z).extBut e2.extBut D.l2i1) hv fun g3 e e3 he3 => ?_)
      exact hE g3 e (fun c o c1 c2 c3 x => e3 _ _ c3 (e2.extBut _ _ c2 (e1.extBut _ _ c1 x))) he3
  unfold pyNext
  refine wpAny_bind (wpAny_attempt (wpAny_callSpecial?_slot (name := Str.ofString "__next__") ty F.slot_zip_next
    (wpAny_call_entry F.slot_zip_next ty F.entry_zip_next (core _ _ _ hh fun g e hk he => ?_) (F.args_zip_next_1 _))))
  obtain ⟨o, ho, hc⟩ := he
  refine wpAny_bind (wpAny_isInstance (T := "StopIteration") (b := true) ⟨o, ho, hc⟩ isSubtype_stop ?_)
  exact wpAny_pure (k _ hk)
end
end Dv
end
section
set_option Elab.async false
set_option maxRecDepth 100000
set_option linter.all false
/-! list(zip(t, u)): the draining -/
namespace Dv
open PySem PySem.W PySem.Calls PyProof.Rows RZ
theorem zip_no_len : typeLookup (.type "zip") "__len__" = pure none := am_miss_of_fast (by decide +kernel)
theorem zip_no_hint : typeLookup (.type "zip") "__length_hint__" = pure none := am_miss_of_fast (by decide +kernel)
/-- a zip at B + 4 that can be drained into the list at B + 5 -/
structure ZRun (prog : Program) (w : World) (B : Nat) (us vs : Array Value) (St : Nat → Heap → Prop) : Prop where
  item : ∀ {A : Around} {E : Value → Shared → Prop} {Q : Option Value → Shared → Prop} {s : Shared} {n : Nat} {u v : Value}, St n s.heap → B + 5 < s.heap.objs.size → us[n]? = some u → vs[n]? = some v →
    (∀ g : Heap, St (n + 1) g → IsPair g s.heap.objs.size u v → g.objs.size = s.heap.objs.size + 1 → (∀ c o, (c < B ∨ B + 5 ≤ c) → s.heap.get? c = some o → g.get? c = some o) → Q (some (.ref s.heap.objs.size)) { s with heap := g }) →
    wpAny (model prog w) A (pyNext (.ref (B + 4))) Q E s
  fin : ∀ {A : Around} {E : Value → Shared → Prop} {Q : Option Value → Shared → Prop} {s : Shared} {n : Nat}, A.handled = none → St n s.heap → us[n]? = none ∨ vs[n]? = none →
    (∀ g : Heap, (∀ c o, (c < B ∨ B + 5 ≤ c) → s.heap.get? c = some o → g.get? c = some o) → Q none { s with heap := g }) →
    wpAny (model prog w) A (pyNext (.ref (B + 4))) Q E s
  stay : ∀ {n : Nat} {h h' : Heap}, St n h → (∀ c o, c ≠ B + 5 → h.get? c = some o → h'.get? c = some o) → St n h'
def ZtT (B la lb : Nat) (us vs : Array Value) (n : Nat) (h : Heap) : Prop :=
  ((IsZip h (B + 4) (B + 2) (B + 3) .none ∧ IsPair h (B + 3) .none .none) ∨ ∃ T fl ob, B + 5 < T ∧ IsZipHeld h (B + 4) (B + 2) (B + 3) T fl ∧ h.get? T = some ob) ∧
  IsPair h (B + 2) (.ref B) (.ref (B + 1)) ∧ h.IsTupleIter B la n ∧ h.IsTupleIter (B + 1) lb n ∧ h.IsTuple la us ∧ h.IsTuple lb vs
def ZtL (B la lb : Nat) (us vs : Array Value) (n : Nat) (h : Heap) : Prop :=
  ((IsZip h (B + 4) (B + 2) (B + 3) .none ∧ IsPair h (B + 3) .none .none) ∨ ∃ T fl ob, B + 5 < T ∧ IsZipHeld h (B + 4) (B + 2) (B + 3) T fl ∧ h.get? T = some ob) ∧
  IsPair h (B + 2) (.ref B) (.ref (B + 1)) ∧ h.IsListIter B la n ∧ h.IsListIter (B + 1) lb n ∧ h.IsList la us ∧ h.IsList lb vs
theorem off5 {B c : Nat} (h : c < B ∨ B + 5 ≤ c) : c ≠ B + 4 ∧ c ≠ B + 3 ∧ c ≠ B + 2 ∧ c ≠ B ∧ c ≠ B + 1 := ⟨by omega, by omega, by omega, by omega, by omega⟩
theorem zrunT {prog : Program} {w : World} {B la lb : Nat} {us vs : Array Value} (hla : la < B) (hlb : lb < B) : ZRun prog w B us vs (ZtT B la lb us vs) where
  item := fun {A E Q s n u v} st hs hu hv k => by
    obtain ⟨hz, ti, ip, iq, ta, tb⟩ := st
    have D := ktu_apart B la lb hla hlb
    rcases hz with ⟨hz, ho⟩ | ⟨T, fl, ob, hT, hz, hTo⟩
    · refine pyNext_zipT_item D hz ti ho ip iq ta tb hu hv fun g a1 a2 a3 a4 a5 a6 a7 => k g ⟨.inr ⟨_, _, _, hs, a1, a5⟩, ?_, a3, a4, ?_, ?_⟩ a5 a6 fun c o hc e => ?_
      · exact a7 _ _ (neN (by omega)) (neN (by omega)) (neN (by omega)) (neN (by omega)) ti
      · exact ta.at fun o e => a7 _ o (neN (by omega)) (neN (by omega)) (neN (by omega)) (neN (by omega)) e
      · exact tb.at fun o e => a7 _ o (neN (by omega)) (neN (by omega)) (neN (by omega)) (neN (by omega)) e
      · exact a7 c o (neN (by omega)) (neN (by omega)) (neN (by omega)) (neN (by omega)) e
    · refine zh_item D hz hTo ti ip iq ta tb hu hv fun g a1 a3 a4 a5 a6 a7 => k g ⟨.inr ⟨T, true, ob, hT, a1, ?_⟩, ?_, a3, a4, ?_, ?_⟩ a5 a6 fun c o hc e => ?_
      · exact a7 _ _ (neN (by omega)) (neN (by omega)) (neN (by omega)) hTo
      · exact a7 _ _ (neN (by omega)) (neN (by omega)) (neN (by omega)) ti
      · exact ta.at fun o e => a7 _ o (neN (by omega)) (neN (by omega)) (neN (by omega)) e
      · exact tb.at fun o e => a7 _ o (neN (by omega)) (neN (by omega)) (neN (by omega)) e
      · exact a7 c o (neN (by omega)) (neN (by omega)) (neN (by omega)) e
  fin := fun {A E Q s n} hh st he k => by
    obtain ⟨hz, ti, ip, iq, ta, tb⟩ := st
    have D := ktu_apart B la lb hla hlb
    rcases hz with ⟨hz, ho⟩ | ⟨T, fl, ob, hT, hz, hTo⟩
    · exact pyNext_zipT_end hh D hz ti ho ip iq ta tb he fun g a7 => k g fun c o hc e => a7 c o (neN (by omega)) (neN (by omega)) (neN (by omega)) (neN (by omega)) e
    · exact zh_end hh D hz hTo ti ip iq ta tb he fun g a7 => k g fun c o hc e => a7 c o (neN (by omega)) (neN (by omega)) (neN (by omega)) e
  stay := fun {n h h'} st k => by
    obtain ⟨hz, ti, ip, iq, ta, tb⟩ := st
    refine ⟨?_, k _ _ (neN (by omega)) ti, ip.at fun o e => k _ o (neN (by omega)) e, iq.at fun o e => k _ o (neN (by omega)) e, ta.at fun o e => k _ o (neN (by omega)) e, tb.at fun o e => k _ o (neN (by omega)) e⟩
    rcases hz with ⟨hz, ho⟩ | ⟨T, fl, ob, hT, hz, hTo⟩
    · exact .inl ⟨k _ _ (neN (by omega)) hz, k _ _ (neN (by omega)) ho⟩
    · exact .inr ⟨T, fl, ob, hT, k _ _ (neN (by omega)) hz, k _ _ (neN (by omega)) hTo⟩
theorem zrunL {prog : Program} {w : World} {B la lb : Nat} {us vs : Array Value} (hla : la < B) (hlb : lb < B) : ZRun prog w B us vs (ZtL B la lb us vs) where
  item := fun {A E Q s n u v} st hs hu hv k => by
    obtain ⟨hz, ti, ip, iq, ta, tb⟩ := st
    have D := ktu_apart B la lb hla hlb
    rcases hz with ⟨hz, ho⟩ | ⟨T, fl, ob, hT, hz, hTo⟩
    · refine wpAny_pyNext_zip_item D hz ti ho ip iq ta tb hu hv fun g a1 a2 a3 a4 a5 a6 a7 => k g ⟨.inr ⟨_, _, _, hs, a1, a5⟩, ?_, a3, a4, ?_, ?_⟩ a5 a6 fun c o hc e => ?_
      · exact a7 _ _ (neN (by omega)) (neN (by omega)) (neN (by omega)) (neN (by omega)) ti
      · exact ta.at fun o e => a7 _ o (neN (by omega)) (neN (by omega)) (neN (by omega)) (neN (by omega)) e
      · exact tb.at fun o e => a7 _ o (neN (by omega)) (neN (by omega)) (neN (by omega)) (neN (by omega)) e
      · exact a7 c o (neN (by omega)) (neN (by omega)) (neN (by omega)) (neN (by omega)) e
    · refine wpAny_pyNext_zip_item_held D hz hTo ti ip iq ta tb hu hv fun g a1 a3 a4 a5 a6 a7 => k g ⟨.inr ⟨T, true, ob, hT, a1, ?_⟩, ?_, a3, a4, ?_, ?_⟩ a5 a6 fun c o hc e => ?_
      · exact a7 _ _ (neN (by omega)) (neN (by omega)) (neN (by omega)) hTo
      · exact a7 _ _ (neN (by omega)) (neN (by omega)) (neN (by omega)) ti
      · exact ta.at fun o e => a7 _ o (neN (by omega)) (neN (by omega)) (neN (by omega)) e
      · exact tb.at fun o e => a7 _ o (neN (by omega)) (neN (by omega)) (neN (by omega)) e
      · exact a7 c o (neN (by omega)) (neN (by omega)) (neN (by omega)) e
  fin := fun {A E Q s n} hh st he k => by
    obtain ⟨hz, ti, ip, iq, ta, tb⟩ := st
    have D := ktu_apart B la lb hla hlb
    rcases hz with ⟨hz, ho⟩ | ⟨T, fl, ob, hT, hz, hTo⟩
    · exact wpAny_pyNext_zip_end hh D hz ti ho ip iq ta tb he fun g a7 => k g fun c o hc e => a7 c o (neN (by omega)) (neN (by omega)) (neN (by omega)) (neN (by omega)) e
    · exact wpAny_pyNext_zip_end_held hh D hz hTo ti ip iq ta tb he fun g a7 => k g fun c o hc e => a7 c o (neN (by omega)) (neN (by omega)) (neN (by omega)) e
  stay := fun {n h h'} st k => by
    obtain ⟨hz, ti, ip, iq, ta, tb⟩ := st
    refine ⟨?_, k _ _ (neN (by omega)) ti, ip.at fun o e => k _ o (neN (by omega)) e, iq.at fun o e => k _ o (neN (by omega)) e, ta.at fun o e => k _ o (neN (by omega)) e, tb.at fun o e => k _ o (neN (by omega)) e⟩
    rcases hz with ⟨hz, ho⟩ | ⟨T, fl, ob, hT, hz, hTo⟩
    · exact .inl ⟨k _ _ (neN (by omega)) hz, k _ _ (neN (by omega)) ho⟩
    · exact .inr ⟨T, fl, ob, hT, k _ _ (neN (by omega)) hz, k _ _ (neN (by omega)) hTo⟩
/-- what stands behind the draining -/
def Zend (base : Heap) (us vs : Array Value) (n : Nat) (h : Heap) (acc : Array Value) (c : Nat) (as : List Addr) : Prop :=
  (∀ b o, base.get? b = some o → h.get? b = some o) ∧ h.get? (base.objs.size + 5) = some (L2.lstObj acc c) ∧ acc.toList = as.map Value.ref ∧ as.length = n ∧ (∀ a ∈ as, base.objs.size + 5 < a ∧ a < h.objs.size) ∧ as.Nodup ∧
    ∀ (i : Nat) (a : Addr), as[i]? = some a → ∃ u v, us[i]? = some u ∧ vs[i]? = some v ∧ IsPair h a u v
theorem zl_loop {prog : Program} {w : World} {us vs : Array Value} {St : Nat → Heap → Prop} {base : Heap} {A : Around} {R : Result → Shared → Prop} {res : Value} (Z : ZRun prog w base.objs.size us vs St) (hh : A.handled = none)
    (hle : min us.size vs.size ≤ sizeLine) : ∀ (m n : Nat) (s : Shared) (acc : Array Value) (c : Nat) (as : List Addr), n + m = min us.size vs.size → St n s.heap → Zend base us vs n s.heap acc c as →
    (∀ (h' : Heap) (acc : Array Value) (c : Nat) (as : List Addr), Zend base us vs (min us.size vs.size) h' acc c as → R (.ok (.ret res)) { s with heap := h' }) →
      codeAny (model prog w) A (.builtin "list.extend.loop" ⟨[.ref (base.objs.size + 5), .ref (base.objs.size + 4), res], []⟩) R s := by
  intro m
  induction m with
  | zero =>
    intro n s acc c as e st z hend
    refine codeAny_builtin F.entry_extend_loop ?_
    rw [Around.under_plainId F.plain_extend_loop _]
    show wpAny _ A.in1 (pyNext (.ref (base.objs.size + 4)) >>= _) _ _ s
    refine wpAny_bind (Z.fin (A := A.in1) hh st ?_ fun g k => ?_)
    · have : us.size ≤ n ∨ vs.size ≤ n := by omega
      rcases this with h | h
      · exact .inl (Array.getElem?_eq_none h)
      · exact .inr (Array.getElem?_eq_none h)
    · obtain ⟨z1, z2, z3, z4, z5, z6, z7⟩ := z
      have kb : ∀ b o, base.get? b = some o → g.get? b = some o := fun b o q => k b o (.inl (Heap.lt_size q)) (z1 b o q)
      refine wpAny_pure (hend g acc c as ⟨kb, k _ _ (.inr (Nat.le_refl _)) z2, z3, by omega, fun a ha => ⟨(z5 a ha).1, ?_⟩, z6, fun i a q => ?_⟩)
      · obtain ⟨i, hi, rfl⟩ := List.mem_iff_getElem.mp ha
        obtain ⟨u, v, _, _, p⟩ := z7 i _ (List.getElem?_eq_getElem hi)
        exact Heap.lt_size (k _ _ (.inr (Nat.le_of_lt (z5 _ ha).1)) p)
      · obtain ⟨u, v, hu, hv, p⟩ := z7 i a q
        exact ⟨u, v, hu, hv, k _ _ (.inr (Nat.le_of_lt (z5 a (List.mem_of_getElem? q)).1)) p⟩
  | succ m ih =>
    intro n s acc c as e st z hend
    obtain ⟨z1, z2, z3, z4, z5, z6, z7⟩ := z
    have hu : n < us.size := by omega
    have hv : n < vs.size := by omega
    have hS := Heap.lt_size z2
    refine codeAny_builtin F.entry_extend_loop ?_
    rw [Around.under_plainId F.plain_extend_loop _]
    show wpAny _ A.in1 (pyNext (.ref (base.objs.size + 4)) >>= _) _ _ s
    refine wpAny_bind (Z.item (A := A.in1) st hS (Array.getElem?_eq_getElem hu) (Array.getElem?_eq_getElem hv) fun g st' p hsz k => ?_)
    have z2' : g.get? (base.objs.size + 5) = some (L2.lstObj acc c) := k _ _ (.inr (Nat.le_refl _)) z2
    have hasz : acc.size = n := by
      rw [← Array.length_toList, z3, List.length_map, z4]
    show wpAny _ A.in1 (updateSeq (base.objs.size + 5) (·.push _) >>= _) _ _ _
    refine wpAny_bind ?_
    refine wpAny_updateSeq z2' rfl (wpAny_pure ⟨plainId_quiet F.plain_extend_loop _, ?_⟩) (by omega) (by show (acc.push _).size ≤ sizeLine + 1; rw [Array.size_push]; omega)
    have k2 : ∀ b o, b ≠ base.objs.size + 5 → g.get? b = some o → (g.update (base.objs.size + 5) (Obj.mapSeq (·.push (.ref s.heap.objs.size)))).get? b = some o := fun b o hb e => (Heap.get?_update_other _ _ (Ne.symm hb)).trans e
    obtain ⟨c', hc'⟩ : ∃ c', Obj.mapSeq (·.push (.ref s.heap.objs.size)) (L2.lstObj acc c) = L2.lstObj (acc.push (.ref s.heap.objs.size)) c' := ⟨_, rfl⟩
    have zn : Zend base us vs (n + 1) (g.update (base.objs.size + 5) (Obj.mapSeq (·.push (.ref s.heap.objs.size)))) (acc.push (.ref s.heap.objs.size)) c' (as ++ [s.heap.objs.size]) := by
      refine ⟨fun b o q => k2 b o (Nat.ne_of_lt (Nat.lt_of_lt_of_le (Heap.lt_size q) (Nat.le_add_right _ _))) (k b o (.inl (Heap.lt_size q)) (z1 b o q)), ?_, ?_, ?_, ?_, ?_, ?_⟩
      · rw [← hc']
        exact Heap.get?_update_self (Obj.mapSeq (·.push (.ref s.heap.objs.size))) z2' rfl
      · rw [Array.toList_push, z3, List.map_append]
        rfl
      · rw [List.length_append, z4]
        rfl
      · intro a ha
        rw [Heap.size_update]
        rcases List.mem_append.mp ha with ha | ha
        · have := z5 a ha
          exact ⟨this.1, Nat.lt_of_lt_of_le this.2 (by rw [hsz]; exact Nat.le_succ _)⟩
        · cases List.mem_singleton.mp ha
          exact ⟨hS, by rw [hsz]; exact Nat.lt_succ_self _⟩
      · refine List.nodup_append.mpr ⟨z6, List.pairwise_singleton _ _, fun a ha b hb => ?_⟩
        cases List.mem_singleton.mp hb
        exact Nat.ne_of_lt (z5 a ha).2
      · intro i a q
        by_cases hi : i < n
        · rw [List.getElem?_append_left (by omega)] at q
          obtain ⟨u, v, hu, hv, p⟩ := z7 i a q
          have h5 := (z5 a (List.mem_of_getElem? q)).1
          exact ⟨u, v, hu, hv, k2 a _ (Nat.ne_of_gt h5) (k _ _ (.inr (Nat.le_of_lt h5)) p)⟩
        · rw [List.getElem?_append_right (by omega), z4] at q
          have hi2 : i = n := by
            have := (List.getElem?_eq_some_iff.mp q).1
            simp at this
            omega
          subst hi2
          rw [Nat.sub_self] at q
          cases q
          exact ⟨_, _, Array.getElem?_eq_getElem hu, Array.getElem?_eq_getElem hv, k2 _ _ (Nat.ne_of_gt hS) p⟩
    exact ih (n + 1) { s with heap := _ } _ c' _ (by omega) (Z.stay st' k2) zn fun h' acc c as q => hend h' acc c as q
end Dv
end
section
set_option Elab.async false
set_option maxRecDepth 100000
set_option linter.all false
/-! list(zip(t, u)): the expression -/
namespace Dv
open PySem PySem.W PySem.Calls PyProof.Rows RZ
theorem list_of_zip {prog : Program} {w : World} {us vs : Array Value} {St : Nat → Heap → Prop} {base : Heap} {A : Around} {s : Shared} {Q : Value → Shared → Prop} {E : Value → Shared → Prop} (Z : ZRun prog w base.objs.size us vs St)
    (hh : A.handled = none) (hle : min us.size vs.size ≤ sizeLine) (hs : s.heap.objs.size = base.objs.size + 5) (st : St 0 s.heap) {f0 : Value} {TI TO : Addr} (hz : IsZip s.heap (base.objs.size + 4) TI TO f0)
    (kb : ∀ b o, base.get? b = some o → s.heap.get? b = some o)
    (hQ : ∀ (h' : Heap) (acc : Array Value) (c : Nat) (as : List Addr), Zend base us vs (min us.size vs.size) h' acc c as → Q (.ref (base.objs.size + 5)) { s with heap := h' }) :
    wpAny (model prog w) A (call (.type "list") [.ref (base.objs.size + 4)]) Q E s := by
  have hSa : s.heap.objs.size ≠ base.objs.size + 4 := neN (by omega)
  refine callType_codes (Q₁ := fun obj s₁ => obj = .ref s.heap.objs.size ∧ s₁ = { s with heap := s.heap.push { cls := .type "list", data := .seq #[] } }) F.called_list (F.typeCall_list_1 _) F.entry_list_init
    (code_list_new _ ⟨rfl, rfl⟩) fun obj s₁ h₁ => ?_
  obtain ⟨rfl, rfl⟩ := h₁
  have hS : (s.heap.push { cls := .type "list", data := .seq #[] }).get? s.heap.objs.size = some { cls := .type "list", data := .seq #[] } := Heap.get?_push_size _ rfl
  refine ⟨⟨_, hS, rfl⟩, F.args_list_init_2 _ _, ?_⟩
  show wpAny _ A.in1.in1 (do let old ← Builtin.List.listItems (.ref s.heap.objs.size); Builtin.List.listUpdate (.ref s.heap.objs.size) (fun _ => #[]); letGo old.toList.reverse; Builtin.List.listExtendWith (.ref s.heap.objs.size) (.ref (base.objs.size + 4)) .none) _ _ _
  refine wpAny_bind ?_
  unfold Builtin.List.listItems
  refine wpAny_bind (wpAny_seqItems hS rfl (wpAny_pure ?_))
  show wpAny _ A.in1.in1 (updateSeq s.heap.objs.size (fun _ => #[]) >>= fun _ => letGo (#[] : Array Value).toList.reverse >>= fun _ => Builtin.List.listExtendWith (.ref s.heap.objs.size) (.ref (base.objs.size + 4)) .none) _ _ _
  refine wpAny_bind (wpAny_updateSeq hS rfl ?_)
  have hS2 := Heap.get?_update_self (Obj.mapSeq (fun _ => (#[] : Array Value))) hS rfl
  refine wpAny_bind (wpAny_letGo ?_)
  unfold Builtin.List.listExtendWith
  have up : ∀ (h : Heap) (f : Obj → Obj), (∀ b o, b ≠ s.heap.objs.size → s.heap.get? b = some o → h.get? b = some o) → ∀ b o, b ≠ s.heap.objs.size → s.heap.get? b = some o → (h.update s.heap.objs.size f).get? b = some o := fun h f q b o hb e =>
    (Heap.get?_update_other _ _ (Ne.symm hb)).trans (q b o hb e)
  have k1 : ∀ b o, b ≠ s.heap.objs.size → s.heap.get? b = some o → (s.heap.push { cls := .type "list", data := .seq #[] }).get? b = some o := fun b o _ e => Heap.get?_push_of_some _ e
  have k2 := up _ (Obj.mapSeq (fun _ => (#[] : Array Value))) k1
  have zty : ∀ {h : Heap}, (∀ b o, b ≠ s.heap.objs.size → s.heap.get? b = some o → h.get? b = some o) → IsZip h (base.objs.size + 4) TI TO f0 := fun {h} q => q _ _ (Ne.symm hSa) hz
  have ty : ∀ {h : Heap}, (∀ b o, b ≠ s.heap.objs.size → s.heap.get? b = some o → h.get? b = some o) → Shared.TypeIs { s with heap := h } (.ref (base.objs.size + 4)) "zip" := fun {h} q => ⟨_, zty q, rfl⟩
  refine wpAny_bind (wpAny_typeOf (ty k2) ?_)
  have h1 : Builtin.List.listSameRef (.ref s.heap.objs.size) (.ref (base.objs.size + 4)) = false := by simp [Builtin.List.listSameRef, hSa]
  have h2 : (Value.type "zip" == Value.type "list") = false := by decide
  have h3 : (Value.type "zip" == Value.type "tuple") = false := by decide
  simp only [h1, h2, h3, Bool.or_false, Bool.false_eq_true, if_false]
  refine wpAny_bind (wpAny_pyIter_zip (zty k2) ?_)
  refine wpAny_bind (wpAny_holding ?_)
  unfold Builtin.List.listLengthHint
  refine wpAny_bind (wpAny_specialOf (ty k2) zip_no_len ?_)
  show wpAny _ A.in1.in1 (specialOf (Value.ref (base.objs.size + 4)) (Str.ofString "__length_hint__") >>= _) _ _ _
  refine wpAny_bind (wpAny_specialOf (ty k2) zip_no_hint ?_)
  refine wpAny_pure ?_
  show wpAny _ A.in1.in1 (rule "list.extend.makes-room" >>= fun _ => Builtin.List.listTouch (.ref s.heap.objs.size) >>= fun _ =>
    again (.builtin "list.extend.loop" ⟨[.ref s.heap.objs.size, .ref (base.objs.size + 4), .none], []⟩)) _ _ _
  refine wpAny_bind (wpAny_rule ?_)
  refine wpAny_bind ?_
  show wpAny _ A.in1.in1 (updateSeq s.heap.objs.size (·.push .none) >>= fun _ => updateSeq s.heap.objs.size (·.pop)) _ _ _
  refine wpAny_bind (wpAny_updateSeq hS2 rfl ?_)
  have hS3 := Heap.get?_update_self (Obj.mapSeq (·.push Value.none)) hS2 rfl
  refine wpAny_updateSeq (hz := by seq_fits) hS3 rfl ?_
  have hS4 := Heap.get?_update_self (Obj.mapSeq (·.pop)) hS3 rfl
  have k4 := up _ (Obj.mapSeq (·.pop)) (up _ (Obj.mapSeq (·.push Value.none)) k2)
  refine wpAny_pure ⟨plainId_quiet F.plain_extend_loop _, ?_⟩
  obtain ⟨c4, hc4⟩ : ∃ c, Obj.mapSeq (·.pop) (Obj.mapSeq (·.push Value.none) (Obj.mapSeq (fun _ => (#[] : Array Value)) { cls := .type "list", data := .seq #[] })) = L2.lstObj #[] c := ⟨_, rfl⟩
  rw [hc4] at hS4
  clear hS hS2 hS3
  generalize (((s.heap.push { cls := .type "list", data := .seq #[] }).update s.heap.objs.size (Obj.mapSeq (fun _ => (#[] : Array Value)))).update s.heap.objs.size (Obj.mapSeq (·.push Value.none))).update s.heap.objs.size (Obj.mapSeq (·.pop)) = g at hS4 k4 ⊢
  rw [hs] at hS4 k4 ⊢
  exact zl_loop (A := A.in1) (base := base) Z hh hle _ 0 { s with heap := g } #[] c4 [] (Nat.zero_add _) (Z.stay st k4)
    ⟨fun b o q => k4 b o (Nat.ne_of_lt (Nat.lt_of_lt_of_le (Heap.lt_size q) (Nat.le_add_right _ _))) (kb b o q), hS4, rfl, rfl, fun a h => (nomatch h), List.nodup_nil, fun i a h => (nomatch h)⟩ fun h' acc c as z => ⟨rfl, hQ h' acc c as z⟩
end Dv
end
section
set_option Elab.async false
set_option maxRecDepth 100000
set_option linter.all false
/-! list(zip(t, u)): laid -/
namespace Dv
open PySem PySem.Spec PyProof.Rows L2
/-- the pairs tracked at their addresses -/
def putP : Hp → List Addr → List (V × V) → Hp
  | H, a :: as, p :: ps => putP (upd H a (.tup [p.1, p.2])) as ps
  | H, _, _ => H
theorem putP_off {b : Addr} : ∀ (as : List Addr) (ps : List (V × V)) (H : Hp), b ∉ as → putP H as ps b = H b
  | [], _, _, _ => rfl
  | _ :: _, [], _, _ => rfl
  | a :: as, p :: ps, H, h => by
    show putP (upd H a (.tup [p.1, p.2])) as ps b = H b
    rw [putP_off as ps _ (fun z => h (List.mem_cons_of_mem _ z)), upd_ne (fun z => h (by rw [z]; exact List.mem_cons_self))]
theorem putP_at : ∀ (as : List Addr) (ps : List (V × V)) (H : Hp), as.length = ps.length → as.Nodup → ∀ (i : Nat) (a : Addr), as[i]? = some a → ∃ p, ps[i]? = some p ∧ putP H as ps a = some (.tup [p.1, p.2])
  | [], _, _, _, _, i, a, h => nomatch h
  | _ :: _, [], _, h, _, _, _, _ => by cases h
  | a :: as, p :: ps, H, h, hn, 0, b, e => by
    have hn' := List.nodup_cons.mp hn
    cases (show some a = some b from e)
    refine ⟨p, rfl, ?_⟩
    show putP (upd H a (.tup [p.1, p.2])) as ps a = some (.tup [p.1, p.2])
    rw [putP_off as ps _ hn'.1, upd_same]
  | a :: as, p :: ps, H, h, hn, i + 1, b, e => putP_at as ps (upd H a (.tup [p.1, p.2])) (Nat.succ.inj h) (List.nodup_cons.mp hn).2 i b e
theorem vals_refs : ∀ as : List Addr, Vals (as.map V.ref) (as.map Value.ref)
  | [] => .nil
  | _ :: as => .cons rfl (vals_refs as)
theorem vals_at : ∀ (i : Nat) {xs : List V} {us : List Value} {u : Value}, Vals xs us → us[i]? = some u → ∃ x, xs[i]? = some x ∧ RelV x u
  | _, [], _, _, r, h => by
    cases r
    cases h
  | 0, x :: xs, _, u, r, h => by
    cases r with
    | cons r t =>
      cases h
      exact ⟨_, rfl, r⟩
  | i + 1, x :: xs, _, u, r, h => by
    cases r with
    | cons r t => exact vals_at i t h
section
variable {X : Cx} {pins : List (Addr × Obj)} {σ : L2.St} {H : Hp} {s : Shared} {h' : Heap} {acc : Array Value} {c : Nat} {as : List Addr} {xs ys : List V} {us vs : List Value}
theorem pairs_laid (I : Inv X pins σ H s) (hx : Vals xs us) (hy : Vals ys vs) (hz : min us.length vs.length ≤ sizeLine) (z : Zend s.heap us.toArray vs.toArray (min us.length vs.length) h' acc c as) :
    H (s.heap.objs.size + 5) = none ∧ (∀ t ∈ as, H t = none) ∧ s.heap.objs.size + 5 ∉ as ∧ as.Nodup ∧ as.length = (xs.zip ys).length ∧ Inv X pins σ (upd (putP H as (xs.zip ys)) (s.heap.objs.size + 5) (.lst (as.map V.ref))) { s with heap := h' } := by
  obtain ⟨hk, hS, hacc, hl, hb, nd, hp⟩ := z
  have hl' : as.length = (xs.zip ys).length := by rw [List.length_zip, hx.length, hy.length]; exact hl
  have hSn : s.heap.objs.size + 5 ∉ as := fun z => Nat.lt_irrefl _ (hb _ z).1
  have new : ∀ t ∈ as, H t = none := fun t ht => I.hok.fresh (Nat.le_of_lt (Nat.lt_of_le_of_lt (Nat.le_add_right _ 5) (hb t ht).1))
  have newS : H (s.heap.objs.size + 5) = none := I.hok.fresh (Nat.le_add_right _ 5)
  have atP := putP_at as (xs.zip ys) H hl' nd
  have off : ∀ b, b ∉ as → b ≠ s.heap.objs.size + 5 → (upd (putP H as (xs.zip ys)) (s.heap.objs.size + 5) (.lst (as.map V.ref))) b = H b := fun b h1 h2 => by rw [upd_ne h2, putP_off as _ _ h1]
  have low : ∀ b o, s.heap.get? b = some o → b ∉ as ∧ b ≠ s.heap.objs.size + 5 := fun b o e =>
    ⟨fun z => absurd (Heap.lt_size e) (Nat.not_lt.mpr (Nat.le_of_lt (Nat.lt_of_le_of_lt (Nat.le_add_right _ 5) (hb b z).1))), Nat.ne_of_lt (Nat.lt_of_lt_of_le (Heap.lt_size e) (Nat.le_add_right _ 5))⟩
  have kp : ∀ b u, H b = some u → (upd (putP H as (xs.zip ys)) (s.heap.objs.size + 5) (.lst (as.map V.ref))) b = some u := fun b u e => by
    rw [off b (fun z => by rw [new b z] at e; cases e) (fun z => by rw [z, newS] at e; cases e)]
    exact e
  refine ⟨newS, new, hSn, nd, hl', ?_⟩
  refine I.call' (ch := []) rfl ⟨fun b o q _ _ _ => hk b o q, fun b o q _ _ _ => ⟨o.slots, hk b o q⟩, fun b o q n _ => ?_, fun b o q _ => ⟨o, hk b o q⟩, fun b xs q => kp b _ q, fun b o u q => kp b _ q, fun b ps q => ⟨#[], by rw [kp b _ q]; simp⟩⟩ (fun b u q => ?_) I.bare fun b z => by simp at z
  · obtain ⟨z1, z2⟩ := low b o q
    rw [off b z1 z2]
    exact n
  · by_cases hbm : b ∈ as
    · have hne : b ≠ s.heap.objs.size + 5 := fun z => hSn (z ▸ hbm)
      obtain ⟨j, hj, e1⟩ := List.mem_iff_getElem.mp hbm
      have e1' : as[j]? = some b := by rw [List.getElem?_eq_getElem hj, e1]
      obtain ⟨p, e2, e3⟩ := atP j b e1'
      rw [upd_ne hne, e3] at q
      cases q
      obtain ⟨u, v, f1, f2, f3⟩ := hp j b e1'
      obtain ⟨x, g1, r1⟩ := vals_at j hx (u := u) (by simpa using f1)
      obtain ⟨y, g2, r2⟩ := vals_at j hy (u := v) (by simpa using f2)
      have : p = (x, y) := by
        have : (xs.zip ys)[j]? = some (x, y) := by rw [List.getElem?_zip_eq_some]; exact ⟨g1, g2⟩
        rw [this] at e2
        exact (Option.some.inj e2).symm
      subst this
      exact ⟨by show 2 ≤ sizeLine; decide, [u, v], .cons r1 (.cons r2 .nil), ⟨_, f3, rfl, _, rfl⟩⟩
    · by_cases hb2 : b = s.heap.objs.size + 5
      · subst hb2
        rw [upd_same] at q
        cases q
        refine ⟨by rw [List.length_map, hl]; exact hz, acc.toList, c, by rw [hacc]; exact vals_refs as, ?_⟩
        rw [Array.toArray_toList]
        exact hS
      · rw [off b hbm hb2] at q
        exact (I.hok b u q).stay (fun d v _ y => hk d v y) (fun d y => kp d _ y) fun d xs y => kp d _ y
end
def tListZip (K : PySem.W.Frag) (ta : TA) : TE := fun σ H Q => ta σ H fun vs H1 => ∃ a b xs ys, vs = [.ref a, .ref b] ∧ ((SqL K H1 a xs ∧ SqL K H1 b ys) ∨ (SqT K H1 a xs ∧ SqT K H1 b ys)) ∧
  ∀ (S : Addr) (as : List Addr), H1 S = none → (∀ t ∈ as, H1 t = none) → S ∉ as → as.Nodup → as.length = (xs.zip ys).length → Q (.ref S) (upd (putP H1 as (xs.zip ys)) S (.lst (as.map V.ref)))
theorem pe_listZip {X : Cx} {e e2 : Expr} {ta : TA} {p p2 pos pos2 : Pos} (hc : X.calm = true) (hg : Gl X "list") (hm : X.mg "list" = none) (hg2 : Gl X "zip") (hm2 : X.mg "zip" = none) (ha : PA X [e, e2] ta)
    (hs : starEach [e, e2] X.env = (false, eval e X.env) :: starEach [e2] X.env) (hpl : (PySem.backTo pos2 (starEach [e2] X.env)).any (·.1) = false)
    (na : starEach [.Call (.Name "zip" p2) [e, e2] [] pos2] X.env = (false, eval (.Call (.Name "zip" p2) [e, e2] [] pos2) X.env) :: starEach [] X.env) :
    PE X (.Call (.Name "list" p) [.Call (.Name "zip" p2) [e, e2] [] pos2] [] pos) (tListZip X.K ta) := by
  refine ⟨fun pins s σ H Q I h => ?_⟩
  refine Call_ (ld_blt I hg hm boot_list (PyProof.Rows.callWith_type1 (args_cons ?_ na) na))
  refine Call_ (ld_blt I hg2 hm2 PyProof.Rows.boot_zip (PyProof.Rows.callWith_type1 (thn (ha.run pos2 pins s σ H _ I h) fun us s1 ⟨vs, H1, I1, r1, q1⟩ => ?_) hs hpl))
  obtain ⟨a, b, xs, ys, ex, q1⟩ := q1
  subst ex
  cases r1 with
  | cons r rr =>
    cases rr with
    | cons r' rr =>
      cases rr
      cases r
      cases r'
      obtain ⟨q1, q⟩ := q1
      rcases q1 with ⟨hqx, hqy⟩ | ⟨hqx, hqy⟩
      · obtain ⟨its, rv, p1, z1⟩ := I1.list hqx
        obtain ⟨its2, rv2, p2, z2⟩ := I1.list hqy
        have hle : min its.length its2.length ≤ sizeLine := by rw [← rv.length]; omega
        refine call_zip_2 p1.isList p2.isList fun h' hz hTI hTO h1 h2 hsz hk => args_nil ?_
        refine list_of_zip (base := s1.heap) (St := ZtL s1.heap.objs.size a b its.toArray its2.toArray) (zrunL p1.lt p2.lt) (I1.ok.hd hc) hle hsz ⟨.inl ⟨hz, hTO⟩, hTI, h1, h2, p1.isList.at fun o q => hk _ o q, p2.isList.at fun o q => hk _ o q⟩ hz hk fun g acc c as z => ?_
        obtain ⟨k1, k2, k3, k4, k5, J⟩ := pairs_laid I1 rv rv2 hle z
        exact ⟨.ref _, _, J, rfl, q _ as k1 k2 k3 k4 k5⟩
      · obtain ⟨its, rv, p1, z1⟩ := I1.tuple hqx
        obtain ⟨its2, rv2, p2, z2⟩ := I1.tuple hqy
        have hle : min its.length its2.length ≤ sizeLine := by rw [← rv.length]; omega
        refine RZ.call_zipT p1 p2 fun h' hz hTI hTO h1 h2 hsz hk => args_nil ?_
        refine list_of_zip (base := s1.heap) (St := ZtT s1.heap.objs.size a b its.toArray its2.toArray) (zrunT p1.lt p2.lt) (I1.ok.hd hc) hle hsz ⟨.inl ⟨hz, hTO⟩, hTI, h1, h2, Heap.IsTuple.at p1 fun o q => hk _ o q, Heap.IsTuple.at p2 fun o q => hk _ o q⟩ hz hk fun g acc c as z => ?_
        obtain ⟨k1, k2, k3, k4, k5, J⟩ := pairs_laid I1 rv rv2 hle z
        exact ⟨.ref _, _, J, rfl, q _ as k1 k2 k3 k4 k5⟩
section
variable {T : Tb} {X : Cx} {W : WX} {F H F0 H0 : Hp} {w w0 : Wn} {σ : L2.St} {ρ : En} {e e2 : Expr} {p p2 pos pos2 : Pos}
/-- the pairs, new and frozen -/
theorem pairs_ok : ∀ (as : List Addr) {ps : List (V × V)} {ds : List D} {F H F0 H0 : Hp} {w0 : Wn}, Ok T F H w σ ρ → Sp2 F0 H0 w0 F H w → (∀ t ∈ as, H t = none) → as.Nodup → as.length = ps.length → ds.length = ps.length →
    (∀ (i : Nat) (p : V × V) (d : D), ps[i]? = some p → ds[i]? = some d → ∃ f g, d = .tup [f, g] ∧ Rep T F f p.1 ∧ Rep T F g p.2) →
    ∃ F', Ok T F' (putP H as ps) w σ ρ ∧ Sp2 F0 H0 w0 F' (putP H as ps) w ∧ Reps T F' ds (as.map V.ref)
  | [], [], [], F, H, F0, H0, w0, O, s, _, _, _, _, _ => ⟨F, O, s, rfl⟩
  | [], _ :: _, _, _, _, _, _, _, _, _, _, _, h, _, _ => by cases h
  | _ :: _, [], _, _, _, _, _, _, _, _, _, _, h, _, _ => by cases h
  | _, _ :: _, [], _, _, _, _, _, _, _, _, _, _, h, _ => by cases h
  | _, [], _ :: _, _, _, _, _, _, _, _, _, _, _, h, _ => by cases h
  | a :: as, p :: ps, d :: ds, F, H, F0, H0, w0, O, s, hn, nd, h1, h2, hr => by
    obtain ⟨nd1, nd2⟩ := List.nodup_cons.mp nd
    obtain ⟨f, g, rfl, r1, r2⟩ := hr 0 p d rfl rfl
    obtain ⟨F3, O3, s3, r3⟩ := new_pair O (hn a List.mem_cons_self) r1 r2
    obtain ⟨G, O4, s4, r4⟩ := pairs_ok as O3 Sp2.refl (fun t ht => by
      rw [upd_ne (fun z => nd1 (by rw [← z]; exact ht))]
      exact hn t (List.mem_cons_of_mem _ ht)) nd2 (Nat.succ.inj h1) (Nat.succ.inj h2) (fun i q x e1 e2 => by
      obtain ⟨f, g, e3, q1, q2⟩ := hr (i + 1) q x e1 e2
      exact ⟨f, g, e3, Rep.mono s3.ext _ _ q1, Rep.mono s3.ext _ _ q2⟩)
    exact ⟨G, O4, (s.trans s3).trans s4, .ref a, as.map V.ref, rfl, Rep.mono s4.ext _ _ r3, r4⟩
end
end Dv
end
section
set_option Elab.async false
set_option maxRecDepth 100000
set_option linter.all false
/-! list(zip(t, u)): the rule -/
namespace Dv
open PySem PySem.Spec L2
section
variable {T : Tb} {X : Cx} {W : WX} {F H F0 H0 F' H' : Hp} {w w0 w' : Wn} {σ : St} {ρ : En} {e e2 : Expr} {p p2 pos pos2 : Pos}
theorem lz_out {ds es : List D} {xs ys : List V} {S : Addr} {as : List Addr} {Q : VK} {F1 H1 : Hp} {w1 : Wn} {ρ1 : En} (O : Ok T F1 H1 w1 σ ρ1) (q : Out1 T F1 H1 w1 σ ρ1 (.lst (zipD ds es)) Q) (rx : Reps T F1 ds xs) (ry : Reps T F1 es ys)
    (hS : H1 S = none) (hn : ∀ t ∈ as, H1 t = none) (hSn : S ∉ as) (nd : as.Nodup) (hl : as.length = (xs.zip ys).length) : Q (.ref S) (upd (putP H1 as (xs.zip ys)) S (.lst (as.map V.ref))) := by
  obtain ⟨G, O4, s4, r4⟩ := pairs_ok (ps := xs.zip ys) (ds := zipD ds es) as O Sp2.refl hn nd hl (by rw [zipD_len, List.length_zip, rx.len, ry.len]) fun i p d h1 h2 => by
    obtain ⟨f, g, e1, e2, rfl⟩ := zipD_get h2
    obtain ⟨v1, hv1, rv1⟩ := rx.get e1
    obtain ⟨v2, hv2, rv2⟩ := ry.get e2
    have : (xs.zip ys)[i]? = some (v1, v2) := by rw [List.getElem?_zip_eq_some]; exact ⟨hv1, hv2⟩
    rw [this] at h1
    cases h1
    exact ⟨f, g, rfl, rv1, rv2⟩
  have hS' : putP H1 as (xs.zip ys) S = none := by rw [putP_off as _ _ hSn]; exact hS
  obtain ⟨O', s', hf, hw, h0⟩ := newH_ok (o := .lst (as.map V.ref)) O4 s4 hS'
  exact q _ _ _ O' s' ⟨S, _, rfl, hS, hw, hf, upd_same, r4⟩
theorem de_listZip (c : Ctx T X) {ma mb : M R} (ha : DE T X W e ma) (hb : DE T X W e2 mb) (hg : Gl X "list") (hm : X.mg "list" = none) (hg2 : Gl X "zip") (hm2 : X.mg "zip" = none)
    (hs : starEach [e, e2] X.env = (false, eval e X.env) :: starEach [e2] X.env) (hs2 : starEach [e2] X.env = [(false, eval e2 X.env)])
    (na : starEach [.Call (.Name "zip" p2) [e, e2] [] pos2] X.env = [(false, eval (.Call (.Name "zip" p2) [e, e2] [] pos2) X.env)]) :
    DE T X W (.Call (.Name "list" p) [.Call (.Name "zip" p2) [e, e2] [] pos2] [] pos) (((ma.bnd takeM).bnd fun d => (mb.bnd takeM).bnd fun f => match d, f with
      | .lst xs, .lst ys => M.ret (zipD xs ys)
      | .tup xs, .tup ys => M.ret (zipD xs ys)
      | _, _ => fun _ => .stuck).bnd fun ds => if sz ds.length then (if true then M.ret (.val (.lst ds)) else M.ret (.val (.dat (.tup ds)))) else fun _ => .stuck) := fun F H w σ ρ Q O h => by
  refine tw_of (pe_listZip c.calm hg hm hg2 hm2 (pa_cons pe_tw (pa_cons pe_tw pa_nil hs2) hs) hs (by rw [hs2]; rfl) na) ?_
  refine ha.run O Sp2.refl (bnd_holds (bnd_holds h)) fun r ρ1 F1 H1 w1 v h1 O1 s1 R1 => ?_
  obtain ⟨d, ρ2, F2, w2, h2, O2, s2, r2⟩ := take_ok O1 s1 R1 h1
  refine hb.run O2 s2 (bnd_holds h2) fun r' ρ3 F3 H3 w3 u h3 O3 s3 R3 => ?_
  obtain ⟨f, ρ4, F4, w4, h4, O4, s4, r4⟩ := take_ok O3 s3 R3 h3
  have r2' := Rep.mono s4.ext d v r2
  have key : ∀ {xs ys : List D}, ((if sz (zipD xs ys).length then (if true then M.ret (R.val (.lst (zipD xs ys))) else M.ret (.val (.dat (.tup (zipD xs ys))))) else fun _ => .stuck : M R) ρ4).holds (KR T F H w σ Q) (KX T W F H w σ) → Out1 T F4 H3 w4 σ ρ4 (.lst (zipD xs ys)) Q := fun {xs ys} h5 => by
    split at h5
    · exact KR.out (s2.trans s4) h5
    · exact h5.elim
  rw [c.K]
  split at h4
  · obtain ⟨q1, xs, rfl, hq1, rr1⟩ := r2'
    obtain ⟨q2, ys, rfl, hq2, rr2⟩ := r4
    exact ⟨q1, q2, xs, ys, rfl, .inl ⟨.of (O4.sub _ _ hq1), .of (O4.sub _ _ hq2)⟩, fun S as k1 k2 k3 k4 k5 => lz_out O4 (key h4) rr1 rr2 k1 k2 k3 k4 k5⟩
  · obtain ⟨q1, xs, rfl, hq1, rr1⟩ := r2'
    obtain ⟨q2, ys, rfl, hq2, rr2⟩ := r4
    exact ⟨q1, q2, xs, ys, rfl, .inr ⟨O4.sub.t hq1, O4.sub.t hq2⟩, fun S as k1 k2 k3 k4 k5 => lz_out O4 (key h4) rr1 rr2 k1 k2 k3 k4 k5⟩
  · exact h4.elim
end
end Dv
end
section
set_option Elab.async false
set_option maxRecDepth 100000
set_option linter.all false
/-! Dicts as values; sets of tuples; ranges with a step -/
namespace Dv
open PySem PySem.Spec L2
theorem dkey_kV {d : Dv.D} {k : L2.Key} {T : Tb} {F : Hp} {v : V} (h : dkey d = some k) (r : Rep T F d v) : v = kV k := by
  cases d with
  | int i => cases h; exact r
  | str i => cases h; exact r
  | _ => cases h
theorem putK_new {k : L2.Key} {v : V} : ∀ {acc : List (L2.Key × V)}, k ∉ acc.map (·.1) → putK acc k v = acc ++ [(k, v)] := fun {acc} h => by
  unfold putK
  rw [if_neg]
  intro z
  obtain ⟨p, hp, e⟩ := List.any_eq_true.mp z
  exact h (List.mem_map.mpr ⟨p, hp, of_decide_eq_true e⟩)
theorem mergeK_new : ∀ (more acc : List (L2.Key × V)), ((acc ++ more).map (·.1)).Nodup → mergeK acc more = acc ++ more
  | [], acc, _ => (List.append_nil acc).symm
  | p :: r, acc, nd => by
    have e : mergeK acc (p :: r) = mergeK (putK acc p.1 p.2) r := rfl
    have hn : p.1 ∉ acc.map (·.1) := by
      rw [List.map_append, List.map_cons] at nd
      intro z
      exact (List.nodup_append.mp nd).2.2 _ z _ List.mem_cons_self rfl
    rw [e, putK_new hn, mergeK_new r _ (by rw [List.append_assoc]; exact nd), List.append_assoc]
    rfl
theorem valV_zip {T : Tb} {F : Hp} {k : L2.Key} : ∀ {ks : List L2.Key} {ds : List Dv.D} {vs : List V}, Reps T F ds vs → match ((ks.zip ds).find? fun p => decide (p.1 = k)).map (·.2) with
    | some d => ∃ v, valV (ks.zip vs) k = some v ∧ Rep T F d v
    | none => valV (ks.zip vs) k = none
  | [], ds, vs, _ => rfl
  | k' :: ks, [], vs, h => by
    rw [show vs = [] from h]
    rfl
  | k' :: ks, d :: ds, vs, h => by
    obtain ⟨v, r, rfl, h1, h2⟩ := h
    rw [List.zip_cons_cons, List.zip_cons_cons, List.find?_cons]
    by_cases e : k' = k
    · rw [decide_eq_true (show (k', d).1 = k from e)]
      exact ⟨v, valV_pos e, h1⟩
    · rw [decide_eq_false (show ¬ (k', d).1 = k from e)]
      have ih := valV_zip (k := k) (ks := ks) h2
      have e2 : valV ((k', v) :: ks.zip r) k = valV (ks.zip r) k := valV_neg e
      rw [e2]
      exact ih
section
variable {T : Tb} {X : Cx} {W : WX} {F H F0 H0 F' H' : Hp} {w w0 w' : Wn} {σ : St} {ρ : En} {o ke de e : Expr} {pos apos p p2 q : Pos}
/-- what stands in a dict under a key -/
theorem dct_get {ks : List L2.Key} {ds : List Dv.D} {d : Dv.D} {x : Option Dv.D} {a : Addr} {vs : List V} {v : V} (hx : dctAt ks ds d = some x) (ha : H a = some (.dK (ks.zip vs))) (hr : Reps T F ds vs) (rv : Rep T F' d v) :
    ∃ y, DGet H a v y ∧ match x with
      | some e => ∃ u, y = some u ∧ Rep T F e u
      | none => y = none := by
  unfold dctAt at hx
  cases ek : dkey d with
  | none => rw [ek] at hx; cases hx
  | some k =>
    rw [ek] at hx
    have hx' : ((ks.zip ds).find? fun p => decide (p.1 = k)).map (·.2) = x := Option.some.inj hx
    have hv := valV_zip (k := k) (ks := ks) hr
    rw [hx'] at hv
    rw [dkey_kV ek rv]
    refine ⟨_, DGet.k ha, ?_⟩
    cases x with
    | none => exact hv
    | some e => exact hv
theorem de_dgt (c : Ctx T X) {mo mk md : M R} (ho : DE T X W o mo) (hk : DE T X W ke mk) (hd : DE T X W de md) (m2 : M2 X o "get" apos ke de pos) :
    DE T X W (.Call (.Attribute o "get" apos) [ke, de] [] pos) (mo.bnd fun r => (getM r).bnd fun x => match x with
    | .dat (.dct ks ds) => mk.bnd fun q => md.bnd fun u => (getM q).bnd fun y => (getM u).bnd fun z => (M.opt (dctAt ks ds y.frz)).bnd fun o => match o with
      | some v => M.ret (.val (.dat v))
      | none => match z with
        | .dat d => M.ret (.val (.dat d))
        | _ => fun _ => .stuck
    | _ => fun _ => .stuck) := fun F H w σ ρ Q O h => by
  refine tw_of (pe_dget2 (by have := c.un; omega) pe_tw pe_tw pe_tw m2) ?_
  refine ho.run O Sp2.refl h fun r ρ1 F1 H1 w1 v h1 O1 s1 R1 => ?_
  obtain ⟨x, ex, h2⟩ := get_holds h1
  have cx := R1.cn O1 ex
  split at h2
  · rename_i ks ds
    obtain ⟨a, vs, rfl, ha, hr, hl⟩ := cx
    refine ⟨a, rfl, .inl ⟨_, .inl (O1.sub _ _ ha)⟩, ?_⟩
    refine hk.run O1 s1 h2 fun q ρ2 F2 H2 w2 v2 h3 O2 s2 R2 => ?_
    refine hd.run O2 (s1.trans s2) h3 fun u ρ3 F3 H3 w3 v3 h4 O3 s3 R3 => ?_
    obtain ⟨y, ey, h5⟩ := get_holds h4
    obtain ⟨z, ez, h6⟩ := get_holds h5
    obtain ⟨g, eg, h7⟩ := optb h6
    have ha3 := s3.ext _ _ (s2.ext _ _ ha)
    have cy := (R2.step s3).cn O3 ey
    obtain ⟨y', e1, e2⟩ := dct_get eg (O3.sub _ _ ha3) (Reps.mono (fun a o h => s3.ext a o (s2.ext a o h)) _ _ hr) (cy.rep O3.sub)
    refine ⟨y', e1, ?_⟩
    cases g with
    | some d =>
      obtain ⟨v', rfl, r'⟩ := e2
      exact KR.pure O3 ((s1.trans s2).trans s3) h7 r'
    | none =>
      subst e2
      cases z with
      | dat d => exact KR.pure O3 ((s1.trans s2).trans s3) h7 (R3.cn O3 ez)
      | lst ds => exact h7.elim
  · exact h2.elim
theorem de_dg1 (c : Ctx T X) {mo mk : M R} (ho : DE T X W o mo) (hk : DE T X W ke mk) (m1 : M1 X o "get" apos ke pos) :
    DE T X W (.Call (.Attribute o "get" apos) [ke] [] pos) (mo.bnd fun r => (getM r).bnd fun x => match x with
    | .dat (.dct ks ds) => mk.bnd fun q => (getM q).bnd fun y => (M.opt (dctAt ks ds y.frz)).bnd fun o => match o with
      | some v => M.ret (.val (.dat v))
      | none => M.ret (.val (.dat .non))
    | _ => fun _ => .stuck) := fun F H w σ ρ Q O h => by
  refine tw_of (pe_dget1 (by have := c.un; omega) pe_tw pe_tw m1) ?_
  refine ho.run O Sp2.refl h fun r ρ1 F1 H1 w1 v h1 O1 s1 R1 => ?_
  obtain ⟨x, ex, h2⟩ := get_holds h1
  have cx := R1.cn O1 ex
  split at h2
  · rename_i ks ds
    obtain ⟨a, vs, rfl, ha, hr, hl⟩ := cx
    refine ⟨a, rfl, .inl ⟨_, .inl (O1.sub _ _ ha)⟩, ?_⟩
    refine hk.run O1 s1 h2 fun q ρ2 F2 H2 w2 v2 h3 O2 s2 R2 => ?_
    obtain ⟨y, ey, h5⟩ := get_holds h3
    obtain ⟨g, eg, h7⟩ := optb h5
    have ha3 := s2.ext _ _ ha
    have cy := R2.cn O2 ey
    obtain ⟨y', e1, e2⟩ := dct_get eg (O2.sub _ _ ha3) (Reps.mono s2.ext _ _ hr) (cy.rep O2.sub)
    refine ⟨y', e1, ?_⟩
    cases g with
    | some d =>
      obtain ⟨v', rfl, r'⟩ := e2
      exact KR.pure O2 (s1.trans s2) h7 r'
    | none =>
      subst e2
      exact KR.pure (v := .non) O2 (s1.trans s2) h7 rfl
  · exact h2.elim
theorem de_dxv (c : Ctx T X) {mo mk : M R} (ho : DE T X W o mo) (hk : DE T X W ke mk) (hs : PlainIx ke) :
    DE T X W (.Subscript o ke pos) (mo.bnd fun r => mk.bnd fun q => (getM r).bnd fun x => (getM q).bnd fun y => match x with
    | .dat (.dct ks ds) => (M.opt ((dctAt ks ds y.frz).bind id)).bnd fun v => M.ret (.val (.dat v))
    | _ => fun _ => .stuck) := fun F H w σ ρ Q O h => by
  refine tw_of (pe_dget (by have := c.un; omega) pe_tw pe_tw hs) ?_
  refine ho.run O Sp2.refl h fun r ρ1 F1 H1 w1 v h1 O1 s1 R1 => ?_
  refine hk.run O1 s1 h1 fun q ρ2 F2 H2 w2 v2 h2 O2 s2 R2 => ?_
  obtain ⟨x, ex, h3⟩ := get_holds h2
  obtain ⟨y, ey, h4⟩ := get_holds h3
  have cx := (R1.step s2).cn O2 ex
  split at h4
  · rename_i ks ds
    obtain ⟨a, vs, rfl, ha, hr, hl⟩ := cx
    obtain ⟨d, ed, h5⟩ := optb h4
    cases eg : dctAt ks ds y.frz with
    | none => rw [eg] at ed; cases ed
    | some g =>
      rw [eg] at ed
      have ed' : g = some d := ed
      subst ed'
      obtain ⟨y', e1, u, rfl, r'⟩ := dct_get eg (O2.sub _ _ ha) hr ((R2.cn O2 ey).rep O2.sub)
      exact ⟨a, u, rfl, e1, KR.pure O2 (s1.trans s2) h5 r'⟩
  · exact h4.elim
theorem pc_dinB (c : Ctx T X) {b : Bool} {ty td : TE} (hi : PE X ke ty) (ho : PE X o td) : PC X (if b then .In else .NotIn) ke o (fun σ H Q => ty σ H fun y H1 => td σ H1 fun x H2 => ∃ a z, x = .ref a ∧ DGet H2 a y z ∧ Q (.bl (z.isSome == b)) H2) := by
  have hu : X.A.units + 1 < cLine := by have := c.un; omega
  refine ⟨fun pins s σ H Q I h => ?_⟩
  refine thn (hi.run pins s σ H _ I h) fun iv s1 ⟨y, H1, I1, ry, q1⟩ => thn (ho.run pins s1 σ H1 _ I1 q1) fun u s2 ⟨x, H2, I2, rx, a, ov, ex, g, q2⟩ => ?_
  subst ex
  obtain rfl : u = Value.ref a := rx
  cases b with
  | true => exact d_in hu I2 g ry fun s3 I3 => ⟨.bl ov.isSome, H2, I3, rfl, by rw [show (ov.isSome == true) = ov.isSome from by cases ov.isSome <;> rfl] at q2; exact q2⟩
  | false => exact d_notIn hu I2 g ry fun s3 I3 => ⟨.bl (!ov.isSome), H2, I3, rfl, by rw [show (ov.isSome == false) = !ov.isSome from by cases ov.isSome <;> rfl] at q2; exact q2⟩
theorem dct_has {ks : List L2.Key} {ds : List Dv.D} {d : Dv.D} {x : Option Dv.D} {a : Addr} {vs : List V} {v : V} (hx : dctAt ks ds d = some x) (ha : H a = some (.dK (ks.zip vs))) (hr : Reps T F ds vs) (rv : Rep T F' d v) : ∃ y, DGet H a v y ∧ y.isSome = x.isSome := by
  obtain ⟨y, h1, h2⟩ := dct_get hx ha hr rv
  refine ⟨y, h1, ?_⟩
  cases x with
  | none =>
    have h2' : y = none := h2
    subst h2'
    rfl
  | some e =>
    obtain ⟨u, h3, _⟩ := h2
    rw [h3]
    rfl
theorem de_din (c : Ctx T X) {b : Bool} {mo mk : M R} (ho : DE T X W o mo) (hk : DE T X W ke mk) (hm : behindInMarks (if b then .In else .NotIn) o = false) :
    DE T X W (.Compare ke [if b then .In else .NotIn] [o] pos) (mk.bnd fun q => mo.bnd fun r => (getM q).bnd fun y => (getM r).bnd fun x => match x with
    | .dat (.dct ks ds) => (M.opt (dctAt ks ds y.frz)).bnd fun o => M.ret (.val (.dat (.bl (o.isSome == b))))
    | _ => fun _ => .stuck) := fun F H w σ ρ Q O h => by
  refine tw_of (pe_cmp (pc_dinB c pe_tw pe_tw) hm) ?_
  refine hk.run O Sp2.refl h fun q ρ1 F1 H1 w1 v1 h1 O1 s1 R1 => ?_
  refine ho.run O1 s1 h1 fun r ρ2 F2 H2 w2 v h2 O2 s2 R2 => ?_
  obtain ⟨y, ey, h3⟩ := get_holds h2
  obtain ⟨x, ex, h4⟩ := get_holds h3
  have cx := R2.cn O2 ex
  split at h4
  · rename_i ks ds
    obtain ⟨a, vs, rfl, ha, hr, hl⟩ := cx
    obtain ⟨g, eg, h5⟩ := optb h4
    obtain ⟨z, e1, e2⟩ := dct_has eg (O2.sub _ _ ha) hr (((R1.step s2).cn O2 ey).rep O2.sub)
    refine ⟨a, z, rfl, e1, ?_⟩
    rw [e2]
    exact KR.pure (v := .bl (g.isSome == b)) O2 (s1.trans s2) h5 rfl
  · exact h4.elim
theorem dt_din (c : Ctx T X) {b : Bool} {mo mk : M R} (ho : DE T X W o mo) (hk : DE T X W ke mk) (hm : behindInMarks (if b then .In else .NotIn) o = false) :
    DT T X W (.Compare ke [if b then .In else .NotIn] [o] pos) (mk.bnd fun q => mo.bnd fun r => (getM q).bnd fun y => (getM r).bnd fun x => match x with
    | .dat (.dct ks ds) => (M.opt (dctAt ks ds y.frz)).bnd fun o => M.ret (o.isSome == b)
    | _ => fun _ => .stuck) := fun F H w σ ρ Q O h => by
  refine twT_of (pt_cmp (pc_dinB c pe_tw pe_tw) hm) ?_
  refine hk.run O Sp2.refl h fun q ρ1 F1 H1 w1 v1 h1 O1 s1 R1 => ?_
  refine ho.run O1 s1 h1 fun r ρ2 F2 H2 w2 v h2 O2 s2 R2 => ?_
  obtain ⟨y, ey, h3⟩ := get_holds h2
  obtain ⟨x, ex, h4⟩ := get_holds h3
  have cx := R2.cn O2 ex
  split at h4
  · rename_i ks ds
    obtain ⟨a, vs, rfl, ha, hr, hl⟩ := cx
    obtain ⟨g, eg, h5⟩ := optb h4
    obtain ⟨z, e1, e2⟩ := dct_has eg (O2.sub _ _ ha) hr (((R1.step s2).cn O2 ey).rep O2.sub)
    refine ⟨a, z, rfl, e1, g.isSome == b, by rw [e2], h5 _ _ _ O2 (s1.trans s2)⟩
  · exact h4.elim
/-- a dict's display -/
theorem dkey_keyO : ∀ {d : Dv.D}, dkey d = keyO d
  | .int _ | .str _ | .non | .bl _ | .tup _ | .lst _ | .scr _ | .tpk _ | .ins _ _ | .exc _ _ | .dct _ _ => rfl
theorem kvL_zip : ∀ kvs : List (Dv.D × Dv.D), kvL kvs = (kvs.map fun p => (dkey p.1).getD (.inl 0)).zip (kvs.map fun p => cV p.2)
  | [] => rfl
  | (k, v) :: r => by
    show ((keyO k).getD (.inl 0), cV v) :: kvL r = _
    rw [kvL_zip r, ← dkey_keyO]
    rfl
theorem reps_cV : ∀ {kvs : List (Dv.D × Dv.D)}, (∀ p ∈ kvs, atomB p.2 = true) → Reps T F (kvs.map (·.2)) (kvs.map fun p => cV p.2)
  | [], _ => rfl
  | p :: r, h => ⟨_, _, rfl, cV_rep (h p List.mem_cons_self), reps_cV fun q hq => h q (List.mem_cons_of_mem _ hq)⟩
theorem out_dct {ks : List L2.Key} {ds : List Dv.D} {vs : List V} {Q : VK} (O : Ok T F H w σ ρ) (q : Out1 T F H w σ ρ (.dat (.dct ks ds)) Q) (r : Reps T F ds vs) (hl : ks.length = ds.length) (p : Addr) (hp : H p = none) : Q (.ref p) (upd H p (.dK (ks.zip vs))) := by
  obtain ⟨O', s'⟩ := newF_ok (o := .dK (ks.zip vs)) O Sp2.refl hp
  exact q _ _ _ O' s' ⟨p, vs, rfl, upd_same, Reps.mono s'.ext ds vs r, hl⟩
theorem de_dsp {kvs : List (Dv.D × Dv.D)} {ks : List (Option Expr)} {vals : List Expr} (h : dispB kvs ks vals = true) :
    DE T X W (.Dict ks vals pos) (M.ret (.val (.dat (.dct (kvs.map fun p => (dkey p.1).getD (.inl 0)) (kvs.map (·.2)))))) := fun F H w σ ρ Q O hh => by
  refine tw_of (pe_dispC h) fun q hq => ?_
  unfold dispB at h
  rw [Bool.and_eq_true, Bool.and_eq_true, Bool.and_eq_true] at h
  obtain ⟨h1, h2, h3, h4⟩ := h
  rw [mergeK_new (kvL kvs) [] (of_decide_eq_true h4), List.nil_append, kvL_zip]
  exact out_dct O (KR.out Sp2.refl hh) (reps_cV (kvB_atoms h1)) (by rw [List.length_map, List.length_map]) q hq
theorem de_dsp0 : DE T X W (.Dict [] [] pos) (M.ret (.val (.dat (.dct [] [])))) := fun F H w σ ρ Q O hh => by
  refine tw_of pe_dnewK fun q hq => ?_
  exact out_dct (ks := []) (vs := []) O (KR.out Sp2.refl hh) rfl rfl q hq
end
end Dv
namespace Dv
open PySem PySem.Spec L2
section
variable {T : Tb} {X : Cx} {W : WX} {F H F0 H0 F' H' : Hp} {w w0 w' : Wn} {σ : St} {ρ : En} {o ke de e e2 e3 tg : Expr} {pos apos p p2 q : Pos}
/-! ### len(set(list of tuples of ints)), all unlike -/
def tLenSetT (K : PySem.W.Frag) (ta : TE) : TE := fun σ H Q => ta σ H fun x H1 => ∃ (l : Addr) (ks : List (Addr × List Int)), x = V.ref l ∧ SqL K H1 l (ks.map fun p => V.ref p.1) ∧ (∀ p ∈ ks, SqT K H1 p.1 (p.2.map V.int)) ∧ ks.length < 64 ∧ (ks.map (·.2)).Nodup ∧ Q (.int ks.length) H1
theorem pe_lenSetT {a : Expr} {ta : TE} (hc : X.calm = true) (hu : X.A.units + 64 < cLine) (hg : Gl X "len") (hm : X.mg "len" = none) (hg2 : Gl X "set") (hm2 : X.mg "set" = none) (ha : PE X a ta)
    (na : starEach [a] X.env = (false, eval a X.env) :: starEach [] X.env) : PE X (.Call (.Name "len" p) [.Call (.Name "set" p2) [a] [] q] [] pos) (tLenSetT X.K ta) := by
  refine ⟨fun pins s σ H Q I h => ?_⟩
  refine PyProof.Rows.Call_ (ld_blt I hg hm PySem.boot_len ?_)
  refine PyProof.Rows.callWith_builtin1 (PyProof.Rows.args_cons ?_ rfl) rfl rfl
  refine PyProof.Rows.Call_ (ld_blt I hg2 hm2 PyProof.Rows.boot_set ?_)
  refine PyProof.Rows.callWith_type1 (PyProof.Rows.args_cons (thn (ha.run pins s σ H _ I h) fun v s1 ⟨x, H1, I1, r1, q1⟩ => PyProof.Rows.args_nil ?_) na) na rfl
  obtain ⟨l, ks, rfl, hq, hk, h1, hnd, q1⟩ := q1
  cases r1
  obtain ⟨its, rv, pl, hz⟩ := I1.list hq
  refine call_set_tups (P := X.prog) (w := X.w) ks (I1.ok.hd hc) pl.isList (by simpa using refs_of_vals rv) (fun p hp => I1.isT (hk p hp)) h1 (by show X.A.units + 3 < cLine; omega) fun h' tk L es ep t R g k => ?_
  have hsz : es.size = ks.length := by
    have e1 := R.size (s := { s1 with heap := h', toks := tk })
    have p1 : List.Perm (L.map (·.2)) (ks.map (·.2)) := (List.perm_ext_iff_of_nodup R.nd hnd).mpr fun z => by
      constructor
      · intro hz
        obtain ⟨p, hp, rfl⟩ := List.mem_map.mp hz
        exact List.mem_map.mpr ⟨p, List.mem_of_mem_take (g.sub p hp), rfl⟩
      · intro hz
        obtain ⟨p, hp, rfl⟩ := List.mem_map.mp hz
        exact g.all p (by rw [List.take_length]; exact hp)
    have := p1.length_eq
    rw [List.length_map, List.length_map] at this
    omega
  refine PyProof.Rows.args_nil ?_
  obtain ⟨o, ho, hex, hd⟩ := R.ob
  have I2 : Inv X pins σ H1 { s1 with heap := h', toks := tk } := I1.kept k
  refine call_len_set ho hex hd (R.fits (s := { s1 with heap := h', toks := tk })) (by rw [hsz]; omega) ⟨.int ks.length, H1, I2.tok _, ⟨_, by rw [hsz]⟩, q1⟩
theorem tup_ints {d : Dv.D} {ns : List Int} {v : V} (h : tupInts d = some ns) (r : Rep T F d v) : ∃ a, v = .ref a ∧ SqT T.K F a (ns.map V.int) := by
  cases d with
  | tup ys =>
    have h' : intsOf ys = some ns := h
    obtain ⟨a, vs, rfl, h1, h2⟩ := r
    rw [intsOf_some h'] at h2
    rw [reps_ints h2] at h1
    exact ⟨a, rfl, h1⟩
  | _ => cases h
theorem tups_ints : ∀ {ds : List Dv.D} {nss : List (List Int)} {vs : List V}, tupsInts ds = some nss → Reps T F ds vs → ∃ ks : List (Addr × List Int), vs = ks.map (fun p => V.ref p.1) ∧ ks.map (·.2) = nss ∧ ∀ p ∈ ks, SqT T.K F p.1 (p.2.map V.int)
  | [], nss, vs, h, r => by
    cases h
    exact ⟨[], r, rfl, fun _ z => nomatch z⟩
  | d :: ds, nss, vs, h, r => by
    obtain ⟨v, us, rfl, r1, r2⟩ := r
    unfold tupsInts at h
    split at h <;> cases h
    rename_i x xs e1 e2
    obtain ⟨a, rfl, h1⟩ := tup_ints e1 r1
    obtain ⟨ks, rfl, rfl, h2⟩ := tups_ints e2 r2
    refine ⟨(a, x) :: ks, rfl, rfl, fun p hp => ?_⟩
    rcases List.mem_cons.mp hp with rfl | hp
    · exact h1
    · exact h2 p hp
theorem de_lenSetT (c : Ctx T X) {ma : M R} (ha : DE T X W e ma) (hg : Gl X "len") (hm : X.mg "len" = none) (hg2 : Gl X "set") (hm2 : X.mg "set" = none) (he : starEach [e] X.env = [(false, eval e X.env)]) :
    DE T X W (.Call (.Name "len" p) [.Call (.Name "set" p2) [e] [] q] [] pos)
      ((ma.bnd fun r => (M.ret []).bnd fun rs => M.ret (r :: rs)).bnd fun rs => (getAllM rs).bnd fun xs => (M.opt (bi .lenSetT (xs.map FV.frz))).bnd fun z => M.ret (.val z)) := fun F H w σ ρ Q O h => by
  refine tw_of (pe_lenSetT c.calm (by have := c.un; omega) hg hm hg2 hm2 pe_tw he) ?_
  rw [bnd_assoc] at h
  refine ha.run O Sp2.refl h fun r ρ1 F1 H1 w1 v h1 O1 s1 R1 => ?_
  have h1 : (((getAllM [r]).bnd fun xs => (M.opt (bi .lenSetT (xs.map FV.frz))).bnd fun z => M.ret (.val z)) ρ1).holds (KR T F H w σ Q) (KX T W F H w σ) := h1
  obtain ⟨xs, ex, h3⟩ := optb (o := getAll [r] ρ1) h1
  obtain ⟨z, ez, h5⟩ := optb h3
  obtain ⟨x, er, rfl⟩ : ∃ x, r.get ρ1 = some x ∧ xs = [x] := by
    unfold getAll at ex
    split at ex <;> cases ex
    rename_i y ys e1 e2
    have : getAll [] ρ1 = some [] := rfl
    rw [this] at e2
    cases e2
    exact ⟨y, e1, rfl⟩
  have cx := R1.cn O1 er
  have ez' : bi .lenSetT [x.frz] = some z := ez
  generalize ea : x.frz = d at ez'
  cases d with
  | lst ys =>
    have ez2 : (match tupsInts ys with
      | some ns => if decide (ns.length < 64) && decide ns.Nodup then some (FV.dat (.int (ns.length : Nat))) else none
      | none => none) = some z := ez'
    cases ei : tupsInts ys with
    | none => rw [ei] at ez2; cases ez2
    | some ns =>
      rw [ei] at ez2
      dsimp only at ez2
      split at ez2
      · rename_i hh
        cases ez2
        rw [Bool.and_eq_true] at hh
        obtain ⟨a, vs, rfl, hl, hr⟩ := cx.list O1.sub ea
        obtain ⟨ks, rfl, rfl, hk⟩ := tups_ints ei hr
        rw [List.length_map] at hh h5
        exact ⟨a, ks, rfl, .of hl, fun p hp => by rw [c.K]; exact O1.sub.t (hk p hp), of_decide_eq_true hh.1, of_decide_eq_true hh.2, KR.pure (v := .int (ks.length : Nat)) O1 s1 h5 rfl⟩
      · cases ez2
  | _ => cases ez'
/-! ### range(i, j, c) -/
theorem rngD_getC {lo c : Int} {n i : Nat} {d : Dv.D} (h : (rngD lo n c)[i]? = some d) : i < n ∧ d = .int (lo + i * c) := by
  unfold rngD at h
  rw [List.getElem?_map] at h
  cases e : (List.range n)[i]? with
  | none => rw [e] at h; cases h
  | some j =>
    rw [e] at h
    cases h
    obtain ⟨h1, h2⟩ := List.getElem?_eq_some_iff.mp e
    rw [List.getElem_range] at h2
    subst h2
    exact ⟨by simpa using h1, rfl⟩
theorem it_rngC {lo c : Int} {n : Nat} : ItOk T F H w (Itc lo c n) (rngD lo n c) := it_same fun i F2 H2 w2 σ ρ O s => by
  refine ⟨fun d hd => ?_, fun hl => (show n ≤ i by simpa [rngD] using hl)⟩
  obtain ⟨h1, rfl⟩ := rngD_getC hd
  exact ⟨h1, fun x H3 y => ⟨y.1, y.2⟩⟩
theorem di_rng3 {ma mb mc : M R} (ha : DE T X W e ma) (hb : DE T X W e2 mb) (hc : DE T X W e3 mc) (hg : Gl X "range") (hm : X.mg "range" = none) (hs : starEach [e, e2, e3] X.env = [(false, eval e X.env), (false, eval e2 X.env), (false, eval e3 X.env)])
    (hs2 : starEach [e2, e3] X.env = [(false, eval e2 X.env), (false, eval e3 X.env)]) (hs3 : starEach [e3] X.env = [(false, eval e3 X.env)]) :
    DI T X W tg (.Call (.Name "range" p) [e, e2, e3] [] pos) (ma.bnd fun r => mb.bnd fun q => mc.bnd fun u => (getM r).bnd fun x => (getM q).bnd fun y => (getM u).bnd fun z => (M.opt (asInt x)).bnd fun i => (M.opt (asInt y)).bnd fun j => (M.opt (asInt z)).bnd fun c =>
      if decide (0 < c) && (decide (c.natAbs < 1073741824) && Builtin.Range.small i j c) then M.ret (rngD i (Builtin.Range.rangeSize i j c).toNat c) else fun _ => .stuck) := fun F H w σ ρ R O h => by
  refine twI_of (pi_range3 hg hm (pa_cons pe_tw (pa_cons pe_tw (pa_cons pe_tw pa_nil hs3) (by rw [hs2, hs3])) (by rw [hs, hs2])) (by rw [hs, hs2]) (by rw [hs2]; rfl)) ?_
  refine ha.run O Sp2.refl h fun r ρ1 F1 H1 w1 v h1 O1 s1 R1 => ?_
  refine hb.run O1 s1 h1 fun q ρ2 F2 H2 w2 u h2 O2 s2 R2 => ?_
  refine hc.run O2 (s1.trans s2) h2 fun q3 ρ3 F3 H3 w3 u3 h3 O3 s3 R3 => ?_
  obtain ⟨x, ex, h4⟩ := get_holds h3
  obtain ⟨y, ey, h5⟩ := get_holds h4
  obtain ⟨z, ez, h6⟩ := get_holds h5
  obtain ⟨i, ei, h7⟩ := optb h6
  obtain ⟨j, ej, h8⟩ := optb h7
  obtain ⟨c, ec, h9⟩ := optb h8
  have e1 := (((R1.step s2).step s3).cn O3 ex).int (i := i) (by rw [asInt_int ei]; rfl)
  have e2 := ((R2.step s3).cn O3 ey).int (i := j) (by rw [asInt_int ej]; rfl)
  have e3 := (R3.cn O3 ez).int (i := c) (by rw [asInt_int ec]; rfl)
  subst e1 e2 e3
  split at h9
  · rename_i hr
    rw [Bool.and_eq_true, Bool.and_eq_true] at hr
    have h0 := of_decide_eq_true hr.1
    refine ⟨i, j, c, _, rfl, ⟨by omega, of_decide_eq_true hr.2.1, hr.2.2, PyProof.Rows.rangeSize_toNat i j c⟩, h9 _ _ _ _ O3 ((s1.trans s2).trans s3) it_rngC⟩
  · exact h9.elim
end
end Dv
end
section
set_option Elab.async false
set_option maxRecDepth 100000
set_option linter.all false
/-! Tables, the context, the matcher -/
namespace Dv
open PySem PySem.Spec L2

mutual
def eqDt : Dv.D → Dv.D → Bool
  | .non, .non => true
  | .bl a, .bl b => a == b
  | .int a, .int b => a == b
  | .str a, .str b => decide (a = b)
  | .tup a, .tup b => eqDts a b
  | _, _ => false
def eqDts : List Dv.D → List Dv.D → Bool
  | [], [] => true
  | a :: as, b :: bs => eqDt a b && eqDts as bs
  | _, _ => false
end
mutual
theorem eqDt_ok : ∀ {a b : Dv.D}, eqDt a b = true → a = b
  | .non, .non, _ => rfl
  | .bl a, .bl b, h => by
    have : (a == b) = true := h
    rw [eq_of_beq this]
  | .int a, .int b, h => by
    have : (a == b) = true := h
    rw [eq_of_beq this]
  | .str a, .str b, h => by
    have : decide (a = b) = true := h
    rw [of_decide_eq_true this]
  | .tup a, .tup b, h => by
    have : eqDts a b = true := h
    rw [eqDts_ok this]
theorem eqDts_ok : ∀ {a b : List Dv.D}, eqDts a b = true → a = b
  | [], [], _ => rfl
  | a :: as, b :: bs, h => by
    have : (eqDt a b && eqDts as bs) = true := h
    rw [Bool.and_eq_true] at this
    rw [eqDt_ok this.1, eqDts_ok this.2]
end
/-- what is true of the module -/
structure Wd (S : Sta) (T : Tb) (fa : Nat → Addr) (mg : Str → Option Value) : Prop where
  nc : T.nc = S.cls.length
  ne : T.ne = S.exs.length
  fl : ∀ (c : Nat) x fs, S.cls[c]? = some (x, fs) → T.fl c = fs ∧ mg x = some (.ref (T.ca c))
  ex : ∀ (c : Nat) x, S.exs[c]? = some x → mg x = some (.ref (T.ea c)) ∧ PySem.W.excIn T.K (T.ea c) He.veBase "ValueError.__new__" = true ∧ PySem.W.keepIn T.K (.ref (T.ea c)) = true ∧
    PySem.W.subIn T.K (.ref (T.ea c)) (.type "BaseException") = some true ∧ PySem.W.typeIn T.K (.ref (T.ea c)) = some (.type "type")
  kc : KCls T S.tys
  free : ∀ x ∈ S.free, mg x = none
  glo : ∀ x d, (x, d) ∈ S.glo → ∃ v u, mg x = some u ∧ RelV v u ∧ (∀ F, Rep T F d v) ∧ ∀ ds, d = .tup ds → ∃ p ob, v = .ref p ∧ T.K.lookup p = some ob ∧ ob.cls = .type "tuple" ∧ ob.dict = none
  fn : ∀ f x, S.fn.lookup f = some (x, none) → mg x = some (.ref (fa f)) ∧ PySem.W.keepIn T.K (.ref (fa f)) = true
  meth : ∀ c m f, (c, m, f) ∈ S.meth → Meth T.K (T.ca c) m (fa f)
  init : ∀ c f, (c, f) ∈ S.init → Mk T.K (T.ca c) (fa f)
  up : ∀ c f, (c, f) ∈ S.up → ∀ x fs m, S.cls[c]? = some (x, fs) → S.fn.lookup f = some (x, some m) → Up T.K (T.ca c) m (fa f)
  exm : ∀ k subs, (k, subs) ∈ S.exm → ∀ c, c < T.ne → PySem.W.exmOne T.K (.ref (T.ea c)) (.ref (T.ea k)) = some (subs.contains c)
/-- the context -/
structure Gd (S : Sta) (T : Tb) (fa : Nat → Addr) (Φ : Nat → Fn) (k : Nat) (N : List Str) (sc os : Scope) (X : Cx) : Prop where
  ctx : Ctx T X
  eN : X.N = N
  eS : X.env.scope = sc
  room : Room (k + 1) X.A
  kd : sc.kind = .function
  sto : ∀ x, os.names.lookup x = some .local ∨ os.names.lookup x = some .cell → L2.Loc sc x ∧ (X.fn x = true ∨ sc.names.lookup x = some .local)
  wd : Wd S T fa X.mg
  fns : ∀ f y, S.fn.lookup f = some y → FnC X T k (Φ f) (fa f)

/-! ### small questions about code -/
def lk (sc : Scope) (x : Str) : Option NameKind := sc.names.lookup x
def visB (sc : Scope) (x : Str) : Bool := (lk sc x == some .local || lk sc x == some .cell || lk sc x == some .free) && !(x == ("__debug__" : Str)) && !(x == ("__classdict__" : Str))
def glB (sc : Scope) (x : Str) : Bool := lk sc x == some .globalImplicit && !(x == ("__debug__" : Str)) && !(x == ("__name__" : Str))
def stoB (os : Scope) (x : Str) : Bool := lk os x == some .local || lk os x == some .cell
/-- plain: nothing special happens where it stands -/
def plB : Expr → Bool
  | .Starred .. => false
  | .Slice .. => false
  | .Set .. => false
  | _ => true
def baB : Expr → Bool
  | .Call (.Name _ _) [] [] _ => false
  | _ => true
def lcB : Expr → Bool
  | .ListComp .. => false
  | .SetComp .. => false
  | .DictComp .. => false
  | _ => true
def teB' : Expr → Bool
  | .UnaryOp .Not _ _ => false
  | .BoolOp .. => false
  | .IfExp .. => false
  | .Compare .. => false
  | _ => true
theorem pl_star {e : Expr} {es : List Expr} {env : Env} (h : plB e = true) : starEach (e :: es) env = (false, eval e env) :: starEach es env := by
  cases e <;> first | rfl | cases h
theorem pl_ix {e : Expr} (h : plB e = true) : PlainIx e := by
  intro o i
  cases e <;> first | rfl | cases h
theorem pl_sl {e : Expr} (h : plB e = true) : ∀ lo hi p, e ≠ .Slice lo hi none p := by
  rintro lo hi p rfl
  cases h
theorem pl_fold {e : Expr} {env : Env} (h : plB e = true) : ∀ x, foldedSetIterable e env x = pure x := by
  intro x
  cases e <;> first | rfl | cases h
theorem pl_mark {e : Expr} {o : CmpOp} (h : plB e = true) : behindInMarks o e = false := by
  cases e <;> first | rfl | cases h
theorem ba_base {e : Expr} {f : Str} {env : Env} (h : baB e = true) : attributeBase e f env (eval e env) = eval e env := by
  cases e <;> first | rfl | skip
  rename_i fn args kw pos
  cases fn <;> first | rfl | skip
  cases args <;> first | rfl | skip
  cases kw <;> first | rfl | cases h
theorem lc_swap {e : Expr} {t : Option Expr} {n : Nat} {env : Env} (h : lcB e = true) : swapsWith e t n env = pure false := by
  cases e <;> first | rfl | cases h
theorem lc_swapS {e t : Expr} {n : Nat} {env : Env} (h : lcB e = true) : swapsWithSole [t] e n env = pure false := lc_swap h
theorem te_true {e : Expr} {env : Env} (h : teB' e = true) : ∀ whole, isTrue e env whole = (do let v ← whole; standAt e.pos; holding [v] (truthy v)) := by
  intro w
  cases e <;> first | rfl | skip
  · cases h
  · rename_i op x p
    cases op <;> first | rfl | cases h
  · cases h
  · cases h

/-! ### the matcher -/
def tgSlots : Tg → List Nat
  | .nm i => [i]
  | .tp ts => go ts
where go : List Tg → List Nat
  | [] => []
  | t :: ts => tgSlots t ++ go ts
def tbB (S : Sta) (f : Str) (tb : List (Nat × Nat)) : Bool := tb.all fun p => match S.cls[p.1]? with
  | some (_, fs) => decide (fs[p.2]? = some f)
  | none => false
def mtbB (S : Sta) (m : Str) (tb : List (Nat × Nat)) : Bool := tb.all fun p => (S.meth.any fun q => decide (q = (p.1, m, p.2))) && (match S.cls[p.1]? with
  | some (_, fs) => !fs.contains m
  | none => false) && (S.fn.lookup p.2).isSome
def biN : BI → Str
  | .len => "len" | .str => "str" | .int => "int" | .list => "list" | .tuple => "tuple" | .sum => "sum" | .max1 => "max" | .max2 => "max" | .min2 => "min"
  | .all_ => "all" | .allI => "all" | .any_ => "any" | .abs => "abs" | .bool => "bool" | .tupleK => "tuple" | _ => ""
def bareP (x : Option Expr) : Bool := x.isNone
section
variable (S : Sta) (N : List Str)
def mtG (os : Scope) : Tg → Expr → Bool
  | .nm i, e => (match e with
    | .Name x _ => decide (N[i]? = some x) && stoB os x
    | _ => false)
  | .tp ts, e => (match e with
    | .Tuple es _ _ => mtGs os ts es
    | _ => false)
where mtGs (os : Scope) : List Tg → List Expr → Bool
  | [], [] => true
  | t :: ts, e :: es => plB e && mtG os t e && mtGs os ts es
  | _, _ => false
mutual
/-- the code stands for the expression; sc: the names, os: what may be stored to -/
def mtE (sc os : Scope) : CE → Expr → Bool
  | .var i, e => (match e with
    | .Name x _ => decide (N[i]? = some x) && visB sc x
    | _ => false)
  | .lit d, e => (match e with
    | .Constant v _ _ => (match d, v with
      | .int i, .int j => i == j
      | .bl a, .bool b => a == b
      | .non, .none => true
      | .str x, .str y => decide (x = y)
      | _, _ => false)
    | _ => false)
  | .glo x d, e => (match e with
    | .Name y _ => decide (x = y) && glB sc x && (S.glo.any fun p => decide (p.1 = x) && eqDt p.2 d)
    | _ => false)
  | .bin o a b, e => (match e with
    | .BinOp x p y _ => decide (o = p) && mtE sc os a x && mtE sc os b y
    | _ => false)
  | .un o a, e => (match e with
    | .UnaryOp p x _ => decide (o = p) && mtE sc os a x
    | _ => false)
  | .cmp o a b, e => (match e with
    | .Compare x [p] [y] _ => decide (o = p) && plB y && mtE sc os a x && mtE sc os b y
    | _ => false)
  | .cm2 o p a b c, e => (match e with
    | .Compare x [o', p'] [y, z] _ => decide (o = o') && decide (p = p') && plB z && mtE sc os a x && mtE sc os b y && mtE sc os c z
    | _ => false)
  | .ands es, e => (match e with
    | .BoolOp .And xs _ => mtEs sc os es xs && !xs.isEmpty
    | _ => false)
  | .ors es, e => (match e with
    | .BoolOp .Or xs _ => mtEs sc os es xs && !xs.isEmpty
    | _ => false)
  | .nt a, e => (match e with
    | .UnaryOp .Not x _ => mtE sc os a x
    | _ => false)
  | .ite c a b, e => (match e with
    | .IfExp t x y _ => mtT sc os c t && mtE sc os a x && mtE sc os b y
    | _ => false)
  | .tup es, e => (match e with
    | .Tuple xs _ _ => mtEs sc os es xs
    | _ => false)
  | .tpk es, e => (match e with
    | .Tuple xs _ _ => mtEs sc os es xs
    | _ => false)
  | .lst es, e => (match e with
    | .List xs _ => mtEs sc os es xs
    | _ => false)
  | .ix a b, e => (match e with
    | .Subscript x y _ => plB y && mtE sc os a x && mtE sc os b y
    | _ => false)
  | .slc a lo hi, e => (match e with
    | .Subscript x (.Slice l h none _) _ => mtE sc os a x && mtO sc os lo l && mtO sc os hi h
    | _ => false)
  | .slr a, e => (match e with
    | .Subscript x (.Slice none none (some (.UnaryOp .USub (.Constant (.int 1) _ _) _)) _) _ => mtE sc os a x
    | _ => false)
  | .fld f tb a, e => (match e with
    | .Attribute x g _ => decide (f = g) && baB x && tbB S f tb && mtE sc os a x
    | _ => false)
  | .call f es, e => (match e with
    | .Call (.Name x _) xs [] _ => decide (S.fn.lookup f = some (x, none)) && glB sc x && mtEs sc os es xs
    | .Call (.Attribute (.Name x _) m apos) xs [] pos => (S.up.any fun q => decide (q.2 = f) && (match S.cls[q.1]? with
      | some (y, _) => decide (y = x)
      | none => false)) && decide (S.fn.lookup f = some (x, some m)) && glB sc x && (apos.endLine == pos.line) && decide (xs.length < 30) && !xs.isEmpty && mtEs sc os es xs
    | _ => false)
  | .mk c n f es, e => (match e with
    | .Call (.Name x _) xs [] _ => (match S.cls[c]? with
      | some (y, fs) => decide (x = y) && decide (n = fs.length)
      | none => false) && S.init.contains (c, f) && (S.fn.lookup f).isSome && glB sc x && mtEs sc os es xs
    | _ => false)
  | .meth m tb o es, e => (match e with
    | .Call (.Attribute y g apos) xs [] pos => decide (m = g) && baB y && (apos.endLine == pos.line) && decide (xs.length < 30) && mtbB S m tb && mtE sc os o y && mtEs sc os es xs
    | _ => false)
  | .bc b es, e => (match e with
    | .Call (.Name x _) xs [] _ => (decide (x = biN b) && decide (biV b ≠ .none) && S.free.contains x && glB sc x && !xs.isEmpty && mtEs sc os es xs) || (match b, es, xs with
      | .sorted, .cons a .nil, [z] => decide (x = ("sorted" : Str)) && S.free.contains x && glB sc x && plB z && mtE sc os a z
      | .sortedSet, .cons a .nil, [.Call (.Name y _) [z] [] _] => decide (x = ("sorted" : Str)) && decide (y = ("set" : Str)) && S.free.contains x && glB sc x && S.free.contains y && glB sc y && plB z && mtE sc os a z
      | .lenSetT, .cons a .nil, [.Call (.Name y _) [z] [] _] => decide (x = ("len" : Str)) && decide (y = ("set" : Str)) && S.free.contains x && glB sc x && S.free.contains y && glB sc y && plB z && mtE sc os a z
      | _, _, _ => false)
    | .Call (.Name x _) [y] [⟨some kw, .Constant (.int j) _ _, _⟩] _ => (match b, es with
      | .maxD, .cons a (.cons (.lit (.int d)) .nil) => decide (x = ("max" : Str)) && decide (kw = ("default" : Str)) && decide (j = d) && S.free.contains x && glB sc x && plB y && mtE sc os a y
      | _, _ => false)
    | _ => false)
  | .bm b o es, e => (match e with
    | .Call (.Attribute y g apos) xs [] pos => decide (g = bmN b) && decide (b ≠ .replace) && baB y && (apos.endLine == pos.line) && decide (xs.length < 30) && mtE sc os o y && mtEs sc os es xs && (match b with
      | .indexK => (match o with
        | .glo _ (.tup _) => !xs.isEmpty
        | _ => false)
      | _ => true)
    | _ => false)
  | .mm m o es, e => (match e with
    | .Call (.Attribute y g apos) xs [] pos => decide (g = mmN m) && decide (m ≠ .extend) && baB y && (apos.endLine == pos.line) && decide (xs.length < 30) && mtE sc os o y && mtEs sc os es xs
    | _ => false)
  | .lc own g it c a, e => (match e with
    | .ListComp x [⟨tg, iter, ifs, 0⟩] scope _ => blkC N sc scope (own.map fun i => ((N[i]?).getD "", i)) && plB iter && mtG N scope g tg && (tgSlots g).all (fun i => own.contains i) && mtI sc os it iter tg && mtTs (relS scope sc) scope c ifs && mtE (relS scope sc) scope a x && (match c with
        | .nil => true
        | .cons _ .nil => true
        | _ => false) &&
      (match lendOf it with
        | some i => !own.contains i
        | none => true)
    | _ => false)
  | .isi a t, e => (match e with
    | .Call (.Name x _) [y, z] [] _ => decide (x = ("isinstance" : Str)) && S.free.contains x && glB sc x && S.tys.contains t && plB y && plB z && mtE sc os a y && (match t, z with
      | .bt n, .Name v _ => decide (v = Str.ofString n) && decide (bootBuiltins v = some (.type n)) && S.free.contains v && glB sc v
      | .cls c _, .Name v _ => (match S.cls[c]? with
        | some (u, _) => decide (u = v)
        | none => false) && glB sc v
      | .exc c _, .Name v _ => decide (S.exs[c]? = some v) && glB sc v
      | _, _ => false)
    | _ => false)
  | .dget kvs k d, e => (match e with
    | .Call (.Attribute (.Dict ks vs _) m apos) [x, y] [] pos => decide (m = ("get" : Str)) && dispB kvs ks vs && (apos.endLine == pos.line) && plB x && plB y && mtE sc os k x && mtE sc os d y
    | _ => false)
  | .dix kvs k, e => (match e with
    | .Subscript (.Dict ks vs _) x _ => dispB kvs ks vs && plB x && mtE sc os k x
    | _ => false)
  | .itl b it, e => (match e, b, it with
    | .Call (.Name x _) [.Call (.Name y _) [z] [] _] [] _, true, .rng1 a => decide (x = ("list" : Str)) && decide (y = ("range" : Str)) && S.free.contains x && glB sc x && S.free.contains y && glB sc y && plB z && mtE sc os a z
    | .Call (.Name x _) [.Call (.Name y _) [z, u] [] _] [] _, true, .zip2 a b => decide (x = ("list" : Str)) && decide (y = ("zip" : Str)) && S.free.contains x && glB sc x && S.free.contains y && glB sc y && plB z && plB u && mtE sc os a z && mtE sc os b u
    | _, _, _ => false)
  | .dsp kvs, e => (match e with
    | .Dict ks vs _ => dispB kvs ks vs || (kvs.isEmpty && (ks.isEmpty && vs.isEmpty))
    | _ => false)
  | .dgt o k d, e => (match e with
    | .Call (.Attribute z m apos) [x, y] [] pos => decide (m = ("get" : Str)) && baB z && (apos.endLine == pos.line) && plB x && plB y && mtE sc os o z && mtE sc os k x && mtE sc os d y
    | _ => false)
  | .dg1 o k, e => (match e with
    | .Call (.Attribute z m apos) [x] [] pos => decide (m = ("get" : Str)) && baB z && (apos.endLine == pos.line) && plB x && mtE sc os o z && mtE sc os k x
    | _ => false)
  | .dxv o k, e => (match e with
    | .Subscript z x _ => plB x && mtE sc os o z && mtE sc os k x
    | _ => false)
  | .din b k o, e => (match e with
    | .Compare x [p] [z] _ => decide (p = if b then .In else .NotIn) && plB z && mtE sc os k x && mtE sc os o z
    | _ => false)
def mtEs (sc os : Scope) : CEs → List Expr → Bool
  | .nil, xs => xs.isEmpty
  | .cons a as, xs => (match xs with
    | x :: r => plB x && mtE sc os a x && mtEs sc os as r
    | [] => false)
def mtO (sc os : Scope) : CO → Option Expr → Bool
  | .no, x => x.isNone
  | .yes a, x => (match x with
    | some e => mtE sc os a e
    | none => false)
def mtT (sc os : Scope) : CT → Expr → Bool
  | .val a, e => teB' e && mtE sc os a e
  | .cmp o a b, e => (match e with
    | .Compare x [p] [y] _ => decide (o = p) && plB y && mtE sc os a x && mtE sc os b y
    | _ => false)
  | .cm2 o p a b c, e => (match e with
    | .Compare x [o', p'] [y, z] _ => decide (o = o') && decide (p = p') && plB z && mtE sc os a x && mtE sc os b y && mtE sc os c z
    | _ => false)
  | .ands ts, e => (match e with
    | .BoolOp .And xs _ => mtTs sc os ts xs && !xs.isEmpty
    | _ => false)
  | .ors ts, e => (match e with
    | .BoolOp .Or xs _ => mtTs sc os ts xs && !xs.isEmpty
    | _ => false)
  | .nt t, e => (match e with
    | .UnaryOp .Not x _ => mtT sc os t x
    | _ => false)
  | .din b k o, e => (match e with
    | .Compare x [p] [z] _ => decide (p = if b then .In else .NotIn) && plB z && mtE sc os k x && mtE sc os o z
    | _ => false)
def mtTs (sc os : Scope) : CTs → List Expr → Bool
  | .nil, xs => xs.isEmpty
  | .cons a as, xs => (match xs with
    | x :: r => mtT sc os a x && mtTs sc os as r
    | [] => false)
def mtI (sc os : Scope) : CI → Expr → Expr → Bool
  | .slot i, e, _ => (match e with
    | .Name x _ => decide (N[i]? = some x) && visB sc x
    | _ => false)
  | .seq a, e, _ => mtE sc os a e
  | .rng1 a, e, _ => (match e with
    | .Call (.Name x _) [y] [] _ => decide (x = ("range" : Str)) && S.free.contains x && glB sc x && plB y && mtE sc os a y
    | _ => false)
  | .rng2 a b, e, _ => (match e with
    | .Call (.Name x _) [y, z] [] _ => decide (x = ("range" : Str)) && S.free.contains x && glB sc x && plB y && plB z && mtE sc os a y && mtE sc os b z
    | _ => false)
  | .enum a, e, tg => (match e, tg with
    | .Call (.Name x _) [y] [] _, .Tuple _ _ _ => decide (x = ("enumerate" : Str)) && S.free.contains x && glB sc x && plB y && mtE sc os a y
    | _, _ => false)
  | .zip2 a b, e, tg => (match e, tg with
    | .Call (.Name x _) [y, z] [] _, .Tuple _ _ _ => decide (x = ("zip" : Str)) && S.free.contains x && glB sc x && plB y && plB z && mtE sc os a y && mtE sc os b z
    | _, _ => false)
  | .zipM a b, e, tg => (match e, tg with
    | .Call (.Name x _) [y, z] [] _, .Tuple _ _ _ => decide (x = ("zip" : Str)) && S.free.contains x && glB sc x && plB y && plB z && mtE sc os a y && mtE sc os b z
    | _, _ => false)
  | .rev a, e, _ => (match e with
    | .Call (.Name x _) [y] [] _ => decide (x = ("reversed" : Str)) && S.free.contains x && glB sc x && plB y && mtE sc os a y
    | _ => false)
  | .rng3 a b c, e, _ => (match e with
    | .Call (.Name x _) [y, z, u] [] _ => decide (x = ("range" : Str)) && S.free.contains x && glB sc x && plB y && plB z && plB u && mtE sc os a y && mtE sc os b z && mtE sc os c u
    | _ => false)
  | .zip4 _ _ _ _, _, _ => false
  | .enzip _ _, _, _ => false
end
end
end Dv
end
section
set_option Elab.async false
set_option maxRecDepth 100000
set_option linter.all false
set_option maxHeartbeats 4000000
/-! The matcher is right: expressions -/
namespace Dv
open PySem PySem.Spec L2
theorem mem_lk {β : Type} {a : Nat} {b : β} : ∀ {l : List (Nat × β)}, l.lookup a = some b → (a, b) ∈ l
  | [], h => by cases h
  | (c, d) :: r, h => by
    rw [List.lookup_cons] at h
    split at h
    · rename_i e
      cases h
      rw [eq_of_beq e]
      exact List.mem_cons_self
    · exact List.mem_cons_of_mem _ (mem_lk h)
section
variable {S : Sta} {T : Tb} {fa : Nat → Addr} {Φ : Nat → Fn} {k : Nat} {N : List Str} {sc os : Scope} {X : Cx} {W : WX}
theorem Gd.blk {scope : Scope} (G : Gd S T fa Φ k N sc os X) (hk : scope.kind = .function) (s : Shared) (H : Hp) (C : Addr) (cl : List (Str × Addr)) (fp : List Addr) :
    Gd S T fa Φ k N (relS scope sc) scope (X.blk s H scope (compEnvC scope cl C X.env) fp) where
  ctx := ⟨G.ctx.K, G.ctx.calm, G.ctx.nd, G.ctx.un⟩
  eN := G.eN
  eS := by
    rw [← G.eS]
    rfl
  room := G.room
  kd := hk
  sto := fun x h => by
    rcases h with h | h
    · have := lookup_relS_keep (sc := sc) (by decide) h
      exact ⟨.inl this, .inr this⟩
    · have := lookup_relS_keep (sc := sc) (by decide) h
      refine ⟨.inr this, .inl ?_⟩
      show (scope.names.lookup x == some .cell) = true
      rw [h]
      rfl
  wd := G.wd
  fns := G.fns
theorem takes_blk {scope : Scope} {s : Shared} {H : Hp} {cenv : Env} {fp : List Addr} : Takes (X.blk s H scope cenv fp) noW := fun u s' ⟨_, _, _, _, _, _, _, _, _, _, _, _, _, _, _, _, w⟩ => w.elim
theorem visB_ok (G : Gd S T fa Φ k N sc os X) {x : Str} (h : visB sc x = true) : Vis X.env.scope x ∧ (x == ("__debug__" : Str)) = false ∧ (x == ("__classdict__" : Str)) = false := by
  unfold visB lk at h
  simp only [Bool.and_eq_true, Bool.or_eq_true, Bool.not_eq_true', beq_iff_eq] at h
  rw [G.eS]
  refine ⟨?_, h.1.2, h.2⟩
  rcases h.1.1 with (h | h) | h
  · exact .inl h
  · exact .inr (.inl h)
  · exact .inr (.inr h)
theorem glB_ok (G : Gd S T fa Φ k N sc os X) {x : Str} (h : glB sc x = true) : Gl X x ∧ (x == ("__debug__" : Str)) = false ∧ x ≠ "__name__" := by
  unfold glB lk at h
  simp only [Bool.and_eq_true, Bool.not_eq_true', beq_iff_eq] at h
  refine ⟨?_, h.1.2, fun z => ?_⟩
  · show X.env.scope.names.lookup x = _
    rw [G.eS]
    exact h.1.1
  · have := h.2
    rw [z] at this
    simp at this
theorem stoB_ok (G : Gd S T fa Φ k N sc os X) {x : Str} {i : Nat} (h1 : N[i]? = some x) (h : stoB os x = true) : NmOk X i x := by
  unfold stoB lk at h
  simp only [Bool.or_eq_true, beq_iff_eq] at h
  obtain ⟨h2, h3⟩ := G.sto x h
  exact ⟨by rw [G.eN]; exact h1, by rw [G.eS]; exact h2, by rw [G.eS]; exact h3⟩
theorem star1 {e : Expr} {env : Env} (h : plB e = true) : starEach [e] env = [(false, eval e env)] := pl_star h
theorem bt_any : ∀ {xs : List Expr} {pos : Pos} {env : Env}, xs.all plB = true → (PySem.backTo pos (starEach xs env)).any (·.1) = false
  | [], _, _, _ => rfl
  | x :: r, pos, env, h => by
    rw [List.all_cons, Bool.and_eq_true] at h
    rw [pl_star h.1]
    exact bt_any h.2
theorem bt_all : ∀ {xs : List Expr} {pos : Pos} {env : Env}, xs.all plB = true → (PySem.backTo pos (starEach xs env)).all (fun x => !x.1) = true
  | [], _, _, _ => rfl
  | x :: r, pos, env, h => by
    rw [List.all_cons, Bool.and_eq_true] at h
    rw [pl_star h.1]
    exact bt_all h.2
theorem mtEs_pl : ∀ {es : CEs} {xs : List Expr}, mtEs S N sc os es xs = true → xs.all plB = true
  | .nil, xs, h => by
    unfold mtEs at h
    rw [List.isEmpty_iff.mp h]
    rfl
  | .cons a as, [], h => by
    unfold mtEs at h
    cases h
  | .cons a as, x :: r, h => by
    unfold mtEs at h
    simp only [Bool.and_eq_true] at h
    rw [List.all_cons, Bool.and_eq_true]
    exact ⟨h.1.1, mtEs_pl h.2⟩
theorem few_ok {xs : List Expr} {pos : Pos} {env : Env} (h : xs.all plB = true) (hl : xs.length < 30) : ((PySem.backTo pos (starEach xs env)).all (fun x => !x.1) && (backToKw pos (keywordEach [] env)).all (fun x => x.1.isSome)
      && decide (xs.length + ([] : List Keyword).length + (if ([] : List Keyword).isEmpty then 0 else 1) < 30)) = true := by
  rw [bt_all h]
  simp [keywordEach, backToKw]
  exact hl
theorem form_ok {xs : List Expr} {pos : Pos} {env : Env} (h : xs.all plB = true) (hl : xs.length < 30) : methodCallForm (xs.length + ([] : List Keyword).length) (PySem.backTo pos (starEach xs env)) (backToKw pos (keywordEach [] env)) = true := by
  unfold methodCallForm
  rw [bt_all h]
  simp [keywordEach, backToKw]
  exact hl
theorem free_mg (G : Gd S T fa Φ k N sc os X) {x : Str} (h : S.free.contains x = true) : X.mg x = none := G.wd.free x (List.contains_iff_mem.mp h)
theorem tbB_ok (G : Gd S T fa Φ k N sc os X) {f : Str} {tb : List (Nat × Nat)} (h : tbB S f tb = true) : ∀ c j, tb.lookup c = some j → (T.fl c)[j]? = some f := fun c j e => by
  have hm : (c, j) ∈ tb := mem_lk e
  have := List.all_eq_true.mp h _ hm
  dsimp only at this
  split at this
  · rename_i x fs ec
    rw [(G.wd.fl c x fs ec).1]
    exact of_decide_eq_true this
  · cases this
theorem mtbB_ok (G : Gd S T fa Φ k N sc os X) {m : Str} {tb : List (Nat × Nat)} (h : mtbB S m tb = true) : MtK X T k Φ m tb := ⟨fun c f e hc => by
  have hm : (c, f) ∈ tb := mem_lk e
  have := List.all_eq_true.mp h _ hm
  dsimp only at this
  rw [Bool.and_eq_true, Bool.and_eq_true] at this
  obtain ⟨⟨h1, h2⟩, h3⟩ := this
  rw [List.any_eq_true] at h1
  obtain ⟨q, hq, eq⟩ := h1
  have eq' := of_decide_eq_true eq
  subst eq'
  split at h2
  · rename_i x fs ec
    refine ⟨?_, fa f, by rw [G.ctx.K]; exact G.wd.meth c m f hq, ?_⟩
    · rw [(G.wd.fl c x fs ec).1]
      simpa using h2
    · obtain ⟨y, ey⟩ := Option.isSome_iff_exists.mp h3
      exact G.fns f y ey
  · cases h2⟩
theorem de_lit {d : Dv.D} {v : Const} {j : Nat} {pos : Pos} (h : (match d, v with
      | .int i, .int j => i == j
      | .bl a, .bool b => a == b
      | .non, .none => true
      | .str x, .str y => decide (x = y)
      | _, _ => false) = true) : DE T X W (.Constant v j pos) (M.ret (.val (.dat d))) := by
  split at h
  · rw [eq_of_beq h]
    exact de_C pe_int fun F => rfl
  · rw [eq_of_beq h]
    exact de_C pe_bl fun F => rfl
  · exact de_C pe_non fun F => rfl
  · rw [of_decide_eq_true h]
    exact de_C pe_str fun F => rfl
  · cases h
theorem de_glo (G : Gd S T fa Φ k N sc os X) {x : Str} {d : Dv.D} {pos : Pos} (hg : glB sc x = true) (h : (S.glo.any fun p => decide (p.1 = x) && eqDt p.2 d) = true) : DE T X W (.Name x pos) (M.ret (.val (.dat d))) := by
  rw [List.any_eq_true] at h
  obtain ⟨⟨y, f⟩, hm, h⟩ := h
  rw [Bool.and_eq_true] at h
  obtain ⟨h1, h2⟩ := h
  have e1 := of_decide_eq_true h1
  have e2 := eqDt_ok h2
  dsimp only at e1 e2
  subst e1 e2
  obtain ⟨v, u, hu, rv, rr, _⟩ := G.wd.glo y f hm
  obtain ⟨g1, g2, g3⟩ := glB_ok G hg
  exact de_C (pe_glob g1 hu rv g2) rr
theorem ae_pl {e : Expr} {es : List Expr} {env : Env} (h : plB e = true) : assignEach (e :: es) env = (false, assign e env) :: assignEach es env := by
  cases e <;> first | rfl | cases h
theorem tgs_pl : ∀ {gs : List Tg} {ts : List Expr} {env : Env}, mtG.mtGs N os gs ts = true → (assignEach ts env).length = gs.length ∧ (assignEach ts env).findIdx? (·.1) = none
  | [], [], env, h => ⟨rfl, rfl⟩
  | [], _ :: _, env, h => by
    unfold mtG.mtGs at h
    cases h
  | _ :: _, [], env, h => by
    unfold mtG.mtGs at h
    cases h
  | g :: gs, t :: ts, env, h => by
    unfold mtG.mtGs at h
    simp only [Bool.and_eq_true] at h
    obtain ⟨h1, h2⟩ := tgs_pl (env := env) h.2
    rw [ae_pl h.1.1]
    refine ⟨by rw [List.length_cons, List.length_cons, h1], ?_⟩
    rw [List.findIdx?_cons, h2]
    rfl
mutual
theorem mtG_ok : ∀ (g : Tg) {tg : Expr} {as : List Nat}, mtG N os g tg = true → Gd S T fa Φ k N sc os X → (∀ i ∈ tgSlots g, i ∈ as) → DG T X tg g as
  | .nm i, tg, as, h, G, ha => by
    unfold mtG at h
    split at h
    · simp only [Bool.and_eq_true, decide_eq_true_eq] at h
      have nm := stoB_ok G h.1 h.2
      exact dg_nm G.ctx.nd nm.at_ nm.loc nm.fn (ha i (by unfold tgSlots; exact List.mem_cons_self)) fun _ => trivial
    · cases h
  | .tp ts, tg, as, h, G, ha => by
    unfold mtG at h
    split at h
    · exact dg_tp G.ctx (mtGs_ok ts h G (by unfold tgSlots at ha; exact ha)) (tgs_pl h).1 (tgs_pl h).2
    · cases h
theorem mtGs_ok : ∀ (gs : List Tg) {ts : List Expr} {as : List Nat}, mtG.mtGs N os gs ts = true → Gd S T fa Φ k N sc os X → (∀ i ∈ tgSlots.go gs, i ∈ as) → DGs T X ts gs as
  | [], [], as, h, G, ha => dgs_nil
  | [], _ :: _, as, h, G, ha => by
    unfold mtG.mtGs at h
    cases h
  | _ :: _, [], as, h, G, ha => by
    unfold mtG.mtGs at h
    cases h
  | g :: gs, t :: ts, as, h, G, ha => by
    unfold mtG.mtGs at h
    simp only [Bool.and_eq_true] at h
    have ha' : ∀ i ∈ tgSlots g ++ tgSlots.go gs, i ∈ as := by
      unfold tgSlots.go at ha
      exact ha
    exact dgs_cons (mtG_ok g h.1.2 G fun i hi => ha' i (List.mem_append_left _ hi)) (mtGs_ok gs h.2 G fun i hi => ha' i (List.mem_append_right _ hi)) (by rw [ae_pl h.1.1]; rfl)
end
theorem own_map {own : List Nat} : (own.map fun i => (((N[i]?).getD "" : Str), i)).map (·.2) = own := by
  rw [List.map_map]
  exact List.map_id' own
mutual
theorem mtE_ok : ∀ (ce : CE) {e : Expr} {sc os : Scope} {X : Cx} {W : WX}, mtE S N sc os ce e = true → Gd S T fa Φ k N sc os X → Takes X W → DE T X W e (ev Φ ce)
  | .var i, e, sc, os, X, W, h, G, tk => by
    unfold mtE at h
    split at h
    · simp only [Bool.and_eq_true, decide_eq_true_eq] at h
      obtain ⟨v1, v2, v3⟩ := visB_ok G h.2
      exact de_var (by rw [G.eN]; exact h.1) v1 v2 v3
    · cases h
  | .lit d, e, sc, os, X, W, h, G, tk => by
    unfold mtE at h
    split at h
    · exact de_lit h
    · cases h
  | .glo x d, e, sc, os, X, W, h, G, tk => by
    unfold mtE at h
    split at h
    · simp only [Bool.and_eq_true, decide_eq_true_eq] at h
      obtain ⟨⟨rfl, h1⟩, h2⟩ := h
      exact de_glo G h1 h2
    · cases h
  | .bin o a b, e, sc, os, X, W, h, G, tk => by
    unfold mtE at h
    split at h
    · simp only [Bool.and_eq_true, decide_eq_true_eq] at h
      obtain ⟨⟨rfl, ha⟩, hb⟩ := h
      exact de_bin G.ctx (mtE_ok a ha G tk) (mtE_ok b hb G tk)
    · cases h
  | .un o a, e, sc, os, X, W, h, G, tk => by
    unfold mtE at h
    split at h
    · simp only [Bool.and_eq_true, decide_eq_true_eq] at h
      obtain ⟨rfl, ha⟩ := h
      exact de_un (mtE_ok a ha G tk)
    · cases h
  | .cmp o a b, e, sc, os, X, W, h, G, tk => by
    unfold mtE at h
    split at h
    · simp only [Bool.and_eq_true, decide_eq_true_eq] at h
      obtain ⟨⟨⟨rfl, hp⟩, ha⟩, hb⟩ := h
      exact de_cmp G.ctx (mtE_ok a ha G tk) (mtE_ok b hb G tk) (pl_mark hp)
    · cases h
  | .cm2 o p a b c, e, sc, os, X, W, h, G, tk => by
    unfold mtE at h
    split at h
    · simp only [Bool.and_eq_true, decide_eq_true_eq] at h
      obtain ⟨⟨⟨⟨⟨rfl, rfl⟩, hp⟩, ha⟩, hb⟩, hc⟩ := h
      exact de_cm2 G.ctx (mtE_ok a ha G tk) (mtE_ok b hb G tk) (mtE_ok c hc G tk) (pl_mark hp)
    · cases h
  | .ands es, e, sc, os, X, W, h, G, tk => by
    unfold mtE at h
    split at h
    · rw [Bool.and_eq_true] at h
      exact mtAnd_ok es h.1 (by simpa using h.2) G tk
    · cases h
  | .ors es, e, sc, os, X, W, h, G, tk => by
    unfold mtE at h
    split at h
    · rw [Bool.and_eq_true] at h
      exact mtOr_ok es h.1 (by simpa using h.2) G tk
    · cases h
  | .nt a, e, sc, os, X, W, h, G, tk => by
    unfold mtE at h
    split at h
    · exact de_nt (mtE_ok a h G tk)
    · cases h
  | .ite c a b, e, sc, os, X, W, h, G, tk => by
    unfold mtE at h
    split at h
    · simp only [Bool.and_eq_true] at h
      exact de_ite (mtT_ok c h.1.1 G tk) (mtE_ok a h.1.2 G tk) (mtE_ok b h.2 G tk)
    · cases h
  | .tup es, e, sc, os, X, W, h, G, tk => by
    unfold mtE at h
    split at h
    · exact de_tup (mtD_ok es h G tk)
    · cases h
  | .tpk es, e, sc, os, X, W, h, G, tk => by
    unfold mtE at h
    split at h
    · exact de_tpk (mtD_ok es h G tk)
    · cases h
  | .lst es, e, sc, os, X, W, h, G, tk => by
    unfold mtE at h
    split at h
    · exact de_lst (mtD_ok es h G tk)
    · cases h
  | .ix a b, e, sc, os, X, W, h, G, tk => by
    unfold mtE at h
    split at h
    · simp only [Bool.and_eq_true] at h
      exact de_ix G.ctx (mtE_ok a h.1.2 G tk) (mtE_ok b h.2 G tk) (pl_ix h.1.1)
    · cases h
  | .slc a lo hi, e, sc, os, X, W, h, G, tk => by
    unfold mtE at h
    split at h
    · simp only [Bool.and_eq_true] at h
      exact de_slc G.ctx (mtE_ok a h.1.1 G tk) (mtO_ok lo h.1.2 G tk) (mtO_ok hi h.2 G tk)
    · cases h
  | .slr a, e, sc, os, X, W, h, G, tk => by
    unfold mtE at h
    split at h
    · exact de_slr G.ctx (mtE_ok a h G tk)
    · cases h
  | .fld f tb a, e, sc, os, X, W, h, G, tk => by
    unfold mtE at h
    split at h
    · simp only [Bool.and_eq_true, decide_eq_true_eq] at h
      obtain ⟨⟨⟨rfl, h1⟩, h2⟩, h3⟩ := h
      exact de_fld G.ctx G.wd.kc (mtE_ok a h3 G tk) (ba_base h1) (tbB_ok G h2)
    · cases h
  | .call f es, e, sc, os, X, W, h, G, tk => by
    unfold mtE at h
    split at h
    · rename_i x p xs pos
      simp only [Bool.and_eq_true, decide_eq_true_eq] at h
      obtain ⟨⟨h1, h2⟩, h3⟩ := h
      obtain ⟨g1, g2, g3⟩ := glB_ok G h2
      obtain ⟨m1, m2⟩ := G.wd.fn _ _ h1
      have hp := mtEs_pl h3
      cases es with
      | nil =>
        unfold mtEs at h3
        rw [List.isEmpty_iff.mp h3]
        exact de_call0 tk (G.fns _ _ h1) (G.room.mono (Nat.le_succ _)) g1 m1 (by rw [G.ctx.K]; exact m2) g2
      | cons a as =>
        cases xs with
        | nil => unfold mtEs at h3; cases h3
        | cons x r =>
          rw [List.all_cons, Bool.and_eq_true] at hp
          exact de_call tk (mtA_ok (.cons a as) h3 G tk) (G.fns _ _ h1) (G.room.mono (Nat.le_succ _)) g1 m1 (by rw [G.ctx.K]; exact m2) g2 (pl_star hp.1) (bt_any hp.2)
    · rename_i x p m apos xs pos
      simp only [Bool.and_eq_true, decide_eq_true_eq] at h
      obtain ⟨⟨⟨⟨⟨⟨h0, h1⟩, h2⟩, h4⟩, h5⟩, h6⟩, h3⟩ := h
      obtain ⟨g1, g2, g3⟩ := glB_ok G h2
      rw [List.any_eq_true] at h0
      obtain ⟨⟨c, f'⟩, hm, h0⟩ := h0
      rw [Bool.and_eq_true, decide_eq_true_eq] at h0
      obtain ⟨e1, h0⟩ := h0
      dsimp only at e1 h0
      subst e1
      split at h0
      · rename_i y fs ec
        have := of_decide_eq_true h0
        subst this
        have u := G.wd.up _ _ hm _ _ _ ec h1
        have hp := mtEs_pl h3
        cases es with
        | nil =>
          unfold mtEs at h3
          rw [List.isEmpty_iff.mp h3] at h6
          cases h6
        | cons a as =>
          cases xs with
          | nil => cases h6
          | cons z r =>
            have hp' := hp
            rw [List.all_cons, Bool.and_eq_true] at hp'
            exact de_callU tk (mtA_ok (.cons a as) h3 G tk) (G.fns _ _ h1) (G.room.mono (Nat.le_succ _)) g1 (G.wd.fl _ _ _ ec).2 (by rw [G.ctx.K]; exact u) (ba_base rfl) (form_ok hp h5) h4 g2 (pl_star hp'.1) (bt_any hp'.2)
      · cases h0
    · cases h
  | .mk c n f es, e, sc, os, X, W, h, G, tk => by
    unfold mtE at h
    split at h
    · rename_i x p xs pos
      simp only [Bool.and_eq_true] at h
      obtain ⟨⟨⟨⟨h0, h1⟩, h4⟩, h2⟩, h3⟩ := h
      split at h0
      · rename_i y fs ec
        simp only [Bool.and_eq_true, decide_eq_true_eq] at h0
        obtain ⟨rfl, rfl⟩ := h0
        obtain ⟨g1, g2, g3⟩ := glB_ok G h2
        obtain ⟨f1, f2⟩ := G.wd.fl _ _ _ ec
        obtain ⟨y, ey⟩ := Option.isSome_iff_exists.mp h4
        have hc : c < T.nc := by rw [G.wd.nc]; exact (List.getElem?_eq_some_iff.mp ec).1
        have mk : Mk X.K (T.ca c) (fa f) := by rw [G.ctx.K]; exact G.wd.init c f (List.contains_iff_mem.mp h1)
        have hp := mtEs_pl h3
        cases es with
        | nil =>
          unfold mtEs at h3
          rw [List.isEmpty_iff.mp h3]
          exact de_mk0 tk hc (by rw [f1]) mk (G.fns _ _ ey) G.room g1 f2 g2
        | cons a as =>
          cases xs with
          | nil => unfold mtEs at h3; cases h3
          | cons x r =>
            rw [List.all_cons, Bool.and_eq_true] at hp
            exact de_mk tk hc (by rw [f1]) mk (mtA_ok (.cons a as) h3 G tk) (G.fns _ _ ey) G.room g1 f2 g2 (pl_star hp.1) (bt_any hp.2)
      · cases h0
    · cases h
  | .meth m tb o es, e, sc, os, X, W, h, G, tk => by
    unfold mtE at h
    split at h
    · rename_i y g apos xs pos
      simp only [Bool.and_eq_true, decide_eq_true_eq] at h
      obtain ⟨⟨⟨⟨⟨⟨rfl, h1⟩, h2⟩, h3⟩, h4⟩, h5⟩, h6⟩ := h
      have hp := mtEs_pl h6
      have hr : Room k X.A := G.room.mono (Nat.le_succ _)
      cases es with
      | nil =>
        unfold mtEs at h6
        rw [List.isEmpty_iff.mp h6]
        exact de_meth0 G.ctx G.wd.kc tk (mtbB_ok G h4) (mtE_ok o h5 G tk) hr (ba_base h1) h2
      | cons a as =>
        cases xs with
        | nil => unfold mtEs at h6; cases h6
        | cons x r =>
          have hp' := hp
          rw [List.all_cons, Bool.and_eq_true] at hp'
          exact de_meth G.ctx G.wd.kc tk (mtbB_ok G h4) (mtE_ok o h5 G tk) (mtA_ok (.cons a as) h6 G tk) hr (ba_base h1) (form_ok hp h3) h2 (pl_star hp'.1) (bt_any hp'.2)
    · cases h
  | .bc b es, e, sc, os, X, W, h, G, tk => by
    unfold mtE at h
    split at h
    · rename_i x p xs pos
      rw [Bool.or_eq_true] at h
      rcases h with h | h
      · simp only [Bool.and_eq_true, decide_eq_true_eq] at h
        obtain ⟨⟨⟨⟨⟨rfl, h1⟩, h2⟩, h3⟩, h4⟩, h5⟩ := h
        obtain ⟨g1, g2, g3⟩ := glB_ok G h3
        have hp := mtEs_pl h5
        cases xs with
        | nil => cases h4
        | cons x r =>
          rw [List.all_cons, Bool.and_eq_true] at hp
          exact de_bc G.ctx (mtR_ok es h5 G tk) g1 (free_mg G h2) (by cases b <;> first | decide +kernel | exact absurd rfl h1) h1 g3 g2 (pl_star hp.1) (bt_any hp.2)
      · split at h
        · simp only [Bool.and_eq_true, decide_eq_true_eq] at h
          obtain ⟨⟨⟨⟨rfl, h2⟩, h3⟩, h6⟩, h7⟩ := h
          obtain ⟨g1, _, _⟩ := glB_ok G h3
          exact de_sortedL G.ctx (mtE_ok _ h7 G tk) g1 (free_mg G h2) (star1 h6)
        · simp only [Bool.and_eq_true, decide_eq_true_eq] at h
          obtain ⟨⟨⟨⟨⟨⟨⟨rfl, rfl⟩, h2⟩, h3⟩, h4⟩, h5⟩, h6⟩, h7⟩ := h
          obtain ⟨g1, _, _⟩ := glB_ok G h3
          obtain ⟨g2, _, _⟩ := glB_ok G h5
          exact de_sortedSet G.ctx (mtE_ok _ h7 G tk) g1 (free_mg G h2) g2 (free_mg G h4) (star1 h6)
        · simp only [Bool.and_eq_true, decide_eq_true_eq] at h
          obtain ⟨⟨⟨⟨⟨⟨⟨rfl, rfl⟩, h2⟩, h3⟩, h4⟩, h5⟩, h6⟩, h7⟩ := h
          obtain ⟨g1, _, _⟩ := glB_ok G h3
          obtain ⟨g2, _, _⟩ := glB_ok G h5
          exact de_lenSetT G.ctx (mtE_ok _ h7 G tk) g1 (free_mg G h2) g2 (free_mg G h4) (star1 h6)
        · cases h
    · split at h
      · simp only [Bool.and_eq_true, decide_eq_true_eq] at h
        obtain ⟨⟨⟨⟨⟨⟨rfl, rfl⟩, rfl⟩, h2⟩, h3⟩, h4⟩, h5⟩ := h
        obtain ⟨g1, g2, g3⟩ := glB_ok G h3
        exact de_maxD G.ctx (mtE_ok _ h5 G tk) g1 (free_mg G h2) (star1 h4)
      · cases h
    · cases h
  | .bm b o es, e, sc, os, X, W, h, G, tk => by
    unfold mtE at h
    split at h
    · rename_i y g apos xs pos
      simp only [Bool.and_eq_true, decide_eq_true_eq] at h
      obtain ⟨⟨⟨⟨⟨⟨⟨rfl, h1⟩, h2⟩, h3⟩, h4⟩, h5⟩, h6⟩, h7⟩ := h
      have hp := mtEs_pl h6
      by_cases hb : b = .indexK
      · subst hb
        dsimp only at h7
        split at h7
        · rename_i x ds
          cases xs with
          | nil => cases h7
          | cons z r =>
            have hp' := hp
            rw [List.all_cons, Bool.and_eq_true] at hp'
            unfold mtE at h5
            split at h5
            · simp only [Bool.and_eq_true, decide_eq_true_eq] at h5
              obtain ⟨⟨rfl, g1⟩, g2⟩ := h5
              rw [List.any_eq_true] at g2
              obtain ⟨⟨y', f⟩, hm, g2⟩ := g2
              rw [Bool.and_eq_true] at g2
              have e1 := of_decide_eq_true g2.1
              have e2 := eqDt_ok g2.2
              dsimp only at e1 e2
              subst e1 e2
              obtain ⟨v, u, hu, rv, rr, tt⟩ := G.wd.glo _ _ hm
              obtain ⟨p, ob, rfl, hk, hc, hd⟩ := tt ds rfl
              obtain ⟨k1, k2, k3⟩ := glB_ok G g1
              exact de_indexK G.ctx (pe_glob k1 hu rv k2) rr (by rw [G.ctx.K]; exact hk) hc hd (mtR_ok es h6 G tk) (ba_base h2) (few_ok hp h4) h3 (pl_star hp'.1) (bt_any hp'.2)
            · cases h5
        · cases h7
      · cases es with
        | nil =>
          unfold mtEs at h6
          rw [List.isEmpty_iff.mp h6]
          exact de_bm0 G.ctx (mtE_ok o h5 G tk) h1 hb (ba_base h2) h3
        | cons a as =>
          cases xs with
          | nil => unfold mtEs at h6; cases h6
          | cons x r =>
            have hp' := hp
            rw [List.all_cons, Bool.and_eq_true] at hp'
            exact de_bm G.ctx (mtE_ok o h5 G tk) (mtR_ok (.cons a as) h6 G tk) h1 hb (ba_base h2) (few_ok hp h4) h3 (pl_star hp'.1) (bt_any hp'.2)
    · cases h
  | .mm m o es, e, sc, os, X, W, h, G, tk => by
    unfold mtE at h
    split at h
    · rename_i y g apos xs pos
      simp only [Bool.and_eq_true, decide_eq_true_eq] at h
      obtain ⟨⟨⟨⟨⟨⟨rfl, h1⟩, h2⟩, h3⟩, h4⟩, h5⟩, h6⟩ := h
      have hp := mtEs_pl h6
      cases es with
      | nil =>
        unfold mtEs at h6
        rw [List.isEmpty_iff.mp h6]
        exact de_mm0 G.ctx (mtE_ok o h5 G tk) h1 (ba_base h2) h3
      | cons a as =>
        cases xs with
        | nil => unfold mtEs at h6; cases h6
        | cons x r =>
          have hp' := hp
          rw [List.all_cons, Bool.and_eq_true] at hp'
          exact de_mm G.ctx (mtE_ok o h5 G tk) (mtD_ok (.cons a as) h6 G tk) h1 (ba_base h2) (few_ok hp h4) h3 (pl_star hp'.1) (bt_any hp'.2)
    · cases h
  | .lc own g it c a, e, sc, os, X, W, h, G, tk => by
    unfold mtE at h
    split at h
    · rename_i x tg iter ifs scope pos
      simp only [Bool.and_eq_true] at h
      obtain ⟨⟨⟨⟨⟨⟨⟨⟨h1, h2⟩, h3⟩, h4⟩, h5⟩, h6⟩, h7⟩, h8⟩, h9⟩ := h
      have ok : BlkOk X.N X.env.scope scope (own.map fun i => (((N[i]?).getD "" : Str), i)) := by
        rw [G.eN, G.eS]
        exact blkOk_by h1
      have hk := ok.kind
      have hsl : ∀ i ∈ tgSlots g, i ∈ (own.map fun i => (((N[i]?).getD "" : Str), i)).map (·.2) := fun i hi => by
        rw [own_map]
        exact List.contains_iff_mem.mp (List.all_eq_true.mp h4 i hi)
      have hln : ∀ i, lendOf it = some i → i ∉ (own.map fun i => (((N[i]?).getD "" : Str), i)).map (·.2) := fun i hi => by
        rw [own_map]
        rw [hi] at h9
        simpa using h9
      have := de_lc (W := W) (pos := pos) G.ctx ok (mtI_ok it h5 G tk) (fun s H C cl fp => mtG_ok g h3 (G.blk hk s H C cl fp) hsl) (fun s H C cl fp => mtC_ok c h6 h8 (G.blk hk s H C cl fp) takes_blk)
        (fun s H C cl fp => mtE_ok a h7 (G.blk hk s H C cl fp) takes_blk) (pl_fold h2) hln
      rw [own_map] at this
      exact this
    · cases h
  | .isi a t, e, sc, os, X, W, h, G, tk => by
    unfold mtE at h
    split at h
    · rename_i x p y z pos
      simp only [Bool.and_eq_true, decide_eq_true_eq] at h
      obtain ⟨⟨⟨⟨⟨⟨⟨h1, h2⟩, h3⟩, h4⟩, h5⟩, h6⟩, h7⟩, h8⟩ := h
      obtain ⟨g1, g2, g3⟩ := glB_ok G h3
      have hT : PE X z (tC (askV T t)) := by
        split at h8
        · simp only [Bool.and_eq_true, decide_eq_true_eq] at h8
          obtain ⟨⟨⟨_, k2⟩, k3⟩, k4⟩ := h8
          obtain ⟨m1, m2, m3⟩ := glB_ok G k4
          exact pe_bltn m1 (free_mg G k3) k2 rfl m3 m2
        · rw [Bool.and_eq_true] at h8
          obtain ⟨k1, k4⟩ := h8
          obtain ⟨m1, m2, m3⟩ := glB_ok G k4
          split at k1
          · rename_i u fs ec
            have := of_decide_eq_true k1
            subst this
            exact pe_glob m1 (G.wd.fl _ _ _ ec).2 rfl m2
          · cases k1
        · rw [Bool.and_eq_true, decide_eq_true_eq] at h8
          obtain ⟨k1, k4⟩ := h8
          obtain ⟨m1, m2, m3⟩ := glB_ok G k4
          exact pe_glob m1 (G.wd.ex _ _ k1).1 rfl m2
        · cases h8
      exact de_isi G.ctx G.wd.kc (mtE_ok a h7 G tk) (List.contains_iff_mem.mp h4) hT h1 g1 (free_mg G h2) (pl_star h5) (pl_star h6)
    · cases h
  | .dget kvs k d, e, sc, os, X, W, h, G, tk => by
    unfold mtE at h
    split at h
    · rename_i ks vs dp m apos x y pos
      simp only [Bool.and_eq_true, decide_eq_true_eq] at h
      obtain ⟨⟨⟨⟨⟨⟨rfl, h1⟩, h2⟩, h3⟩, h4⟩, h5⟩, h6⟩ := h
      refine de_dget G.ctx h1 (mtE_ok k h5 G tk) (mtE_ok d h6 G tk) ⟨ba_base rfl, few_ok (by rw [List.all_cons, List.all_cons, h3, h4]; rfl) (by show 2 < 30; decide), h2, ?_⟩
      rw [pl_star h3, pl_star h4]
      rfl
    · cases h
  | .dix kvs k, e, sc, os, X, W, h, G, tk => by
    unfold mtE at h
    split at h
    · simp only [Bool.and_eq_true] at h
      exact de_dix G.ctx h.1.1 (mtE_ok k h.2 G tk) (pl_ix h.1.2)
    · cases h
  | .dsp kvs, e, sc, os, X, W, h, G, tk => by
    unfold mtE at h
    split at h
    · rw [Bool.or_eq_true] at h
      rcases h with h | h
      · exact de_dsp h
      · rw [Bool.and_eq_true, Bool.and_eq_true] at h
        rw [List.isEmpty_iff.mp h.1, List.isEmpty_iff.mp h.2.1, List.isEmpty_iff.mp h.2.2]
        exact de_dsp0
    · cases h
  | .dgt o k d, e, sc, os, X, W, h, G, tk => by
    unfold mtE at h
    split at h
    · simp only [Bool.and_eq_true, decide_eq_true_eq] at h
      obtain ⟨⟨⟨⟨⟨⟨⟨rfl, h1⟩, h2⟩, h3⟩, h4⟩, h5⟩, h6⟩, h7⟩ := h
      refine de_dgt G.ctx (mtE_ok o h5 G tk) (mtE_ok k h6 G tk) (mtE_ok d h7 G tk) ⟨ba_base h1, few_ok (by rw [List.all_cons, List.all_cons, h3, h4]; rfl) (by show 2 < 30; decide), h2, ?_⟩
      rw [pl_star h3, pl_star h4]
      rfl
    · cases h
  | .dg1 o k, e, sc, os, X, W, h, G, tk => by
    unfold mtE at h
    split at h
    · simp only [Bool.and_eq_true, decide_eq_true_eq] at h
      obtain ⟨⟨⟨⟨⟨rfl, h1⟩, h2⟩, h3⟩, h5⟩, h6⟩ := h
      refine de_dg1 G.ctx (mtE_ok o h5 G tk) (mtE_ok k h6 G tk) ⟨ba_base h1, few_ok (by rw [List.all_cons, h3]; rfl) (by show 1 < 30; decide), h2, ?_⟩
      rw [pl_star h3]
      rfl
    · cases h
  | .dxv o k, e, sc, os, X, W, h, G, tk => by
    unfold mtE at h
    split at h
    · simp only [Bool.and_eq_true] at h
      exact de_dxv G.ctx (mtE_ok o h.1.2 G tk) (mtE_ok k h.2 G tk) (pl_ix h.1.1)
    · cases h
  | .din b k o, e, sc, os, X, W, h, G, tk => by
    unfold mtE at h
    split at h
    · simp only [Bool.and_eq_true, decide_eq_true_eq] at h
      obtain ⟨⟨⟨rfl, hp⟩, ha⟩, hb⟩ := h
      exact de_din G.ctx (mtE_ok o hb G tk) (mtE_ok k ha G tk) (pl_mark hp)
    · cases h
  | .itl b it, e, sc, os, X, W, h, G, tk => by
    unfold mtE at h
    split at h
    · rename_i x p y p2 z pos2 pos a
      simp only [Bool.and_eq_true, decide_eq_true_eq] at h
      obtain ⟨⟨⟨⟨⟨⟨⟨rfl, rfl⟩, h2⟩, h3⟩, h4⟩, h5⟩, h6⟩, h7⟩ := h
      obtain ⟨g1, _, _⟩ := glB_ok G h3
      obtain ⟨g2, _, _⟩ := glB_ok G h5
      exact de_lstRg1 G.ctx (mtE_ok a h7 G tk) g1 (free_mg G h2) g2 (free_mg G h4) (star1 h6) (star1 rfl)
    · rename_i x p y p2 z u pos2 pos a b
      simp only [Bool.and_eq_true, decide_eq_true_eq] at h
      obtain ⟨⟨⟨⟨⟨⟨⟨⟨⟨rfl, rfl⟩, h2⟩, h3⟩, h4⟩, h5⟩, h6⟩, h6'⟩, h7⟩, h8⟩ := h
      obtain ⟨g1, _, _⟩ := glB_ok G h3
      obtain ⟨g2, _, _⟩ := glB_ok G h5
      exact de_listZip G.ctx (mtE_ok a h7 G tk) (mtE_ok b h8 G tk) g1 (free_mg G h2) g2 (free_mg G h4) (pl_star h6) (star1 h6') (star1 rfl)
    · cases h
theorem mtAnd_ok : ∀ (ce : CEs) {es : List Expr} {sc os : Scope} {X : Cx} {W : WX} {pos : Pos}, mtEs S N sc os ce es = true → es ≠ [] → Gd S T fa Φ k N sc os X → Takes X W → DE T X W (.BoolOp .And es pos) (evAnd Φ ce)
  | .nil, es, sc, os, X, W, pos, h, hn, G, tk => by
    unfold mtEs at h
    exact absurd (List.isEmpty_iff.mp h) hn
  | .cons a .nil, es, sc, os, X, W, pos, h, hn, G, tk => by
    unfold mtEs at h
    split at h
    · simp only [Bool.and_eq_true] at h
      obtain ⟨⟨_, h1⟩, h2⟩ := h
      unfold mtEs at h2
      rw [List.isEmpty_iff.mp h2]
      exact de_one (mtE_ok a h1 G tk)
    · cases h
  | .cons a (.cons b bs), es, sc, os, X, W, pos, h, hn, G, tk => by
    unfold mtEs at h
    split at h
    · rename_i x r
      simp only [Bool.and_eq_true] at h
      obtain ⟨⟨_, h1⟩, h2⟩ := h
      cases r with
      | nil => unfold mtEs at h2; cases h2
      | cons y r => exact de_and (mtE_ok a h1 G tk) (mtAnd_ok (.cons b bs) h2 (fun z => nomatch z) G tk)
    · cases h
theorem mtOr_ok : ∀ (ce : CEs) {es : List Expr} {sc os : Scope} {X : Cx} {W : WX} {pos : Pos}, mtEs S N sc os ce es = true → es ≠ [] → Gd S T fa Φ k N sc os X → Takes X W → DE T X W (.BoolOp .Or es pos) (evOr Φ ce)
  | .nil, es, sc, os, X, W, pos, h, hn, G, tk => by
    unfold mtEs at h
    exact absurd (List.isEmpty_iff.mp h) hn
  | .cons a .nil, es, sc, os, X, W, pos, h, hn, G, tk => by
    unfold mtEs at h
    split at h
    · simp only [Bool.and_eq_true] at h
      obtain ⟨⟨_, h1⟩, h2⟩ := h
      unfold mtEs at h2
      rw [List.isEmpty_iff.mp h2]
      exact de_one (mtE_ok a h1 G tk)
    · cases h
  | .cons a (.cons b bs), es, sc, os, X, W, pos, h, hn, G, tk => by
    unfold mtEs at h
    split at h
    · rename_i x r
      simp only [Bool.and_eq_true] at h
      obtain ⟨⟨_, h1⟩, h2⟩ := h
      cases r with
      | nil => unfold mtEs at h2; cases h2
      | cons y r => exact de_or G.ctx (mtE_ok a h1 G tk) (mtOr_ok (.cons b bs) h2 (fun z => nomatch z) G tk)
    · cases h
theorem mtR_ok : ∀ (ce : CEs) {es : List Expr} {sc os : Scope} {X : Cx} {W : WX}, mtEs S N sc os ce es = true → Gd S T fa Φ k N sc os X → Takes X W → DL T (ROks T) X W es (evR Φ ce)
  | .nil, es, sc, os, X, W, h, G, tk => by
    unfold mtEs at h
    rw [List.isEmpty_iff.mp h]
    exact dr_nil
  | .cons a as, es, sc, os, X, W, h, G, tk => by
    unfold mtEs at h
    split at h
    · simp only [Bool.and_eq_true] at h
      exact dr_cons (mtE_ok a h.1.2 G tk) (mtR_ok as h.2 G tk) (pl_star h.1.1)
    · cases h
theorem mtD_ok : ∀ (ce : CEs) {es : List Expr} {sc os : Scope} {X : Cx} {W : WX}, mtEs S N sc os ce es = true → Gd S T fa Φ k N sc os X → Takes X W → DL T (RepA T) X W es (evD Φ ce)
  | .nil, es, sc, os, X, W, h, G, tk => by
    unfold mtEs at h
    rw [List.isEmpty_iff.mp h]
    exact dd_nil
  | .cons a as, es, sc, os, X, W, h, G, tk => by
    unfold mtEs at h
    split at h
    · simp only [Bool.and_eq_true] at h
      exact dd_cons (mtE_ok a h.1.2 G tk) (mtD_ok as h.2 G tk) (pl_star h.1.1)
    · cases h
theorem mtA_ok : ∀ (ce : CEs) {es : List Expr} {sc os : Scope} {X : Cx} {W : WX}, mtEs S N sc os ce es = true → Gd S T fa Φ k N sc os X → Takes X W → DL T (AOksR T) X W es (evA Φ ce)
  | .nil, es, sc, os, X, W, h, G, tk => by
    unfold mtEs at h
    rw [List.isEmpty_iff.mp h]
    exact da_nil
  | .cons a as, es, sc, os, X, W, h, G, tk => by
    unfold mtEs at h
    split at h
    · simp only [Bool.and_eq_true] at h
      exact da_cons (mtE_ok a h.1.2 G tk) (mtA_ok as h.2 G tk) (pl_star h.1.1)
    · cases h
theorem mtO_ok : ∀ (ce : CO) {e : Option Expr} {sc os : Scope} {X : Cx} {W : WX}, mtO S N sc os ce e = true → Gd S T fa Φ k N sc os X → Takes X W → DO T X W e (evO Φ ce)
  | .no, e, sc, os, X, W, h, G, tk => by
    unfold mtO at h
    rw [Option.isNone_iff_eq_none.mp h]
    exact do_none
  | .yes a, e, sc, os, X, W, h, G, tk => by
    unfold mtO at h
    split at h
    · exact do_some (mtE_ok a h G tk)
    · cases h
theorem mtT_ok : ∀ (ce : CT) {e : Expr} {sc os : Scope} {X : Cx} {W : WX}, mtT S N sc os ce e = true → Gd S T fa Φ k N sc os X → Takes X W → DT T X W e (evT Φ ce)
  | .val a, e, sc, os, X, W, h, G, tk => by
    unfold mtT at h
    rw [Bool.and_eq_true] at h
    exact dt_val G.ctx (mtE_ok a h.2 G tk) (te_true h.1)
  | .cmp o a b, e, sc, os, X, W, h, G, tk => by
    unfold mtT at h
    split at h
    · simp only [Bool.and_eq_true, decide_eq_true_eq] at h
      obtain ⟨⟨⟨rfl, hp⟩, ha⟩, hb⟩ := h
      exact dt_cmp G.ctx (mtE_ok a ha G tk) (mtE_ok b hb G tk) (pl_mark hp)
    · cases h
  | .cm2 o p a b c, e, sc, os, X, W, h, G, tk => by
    unfold mtT at h
    split at h
    · simp only [Bool.and_eq_true, decide_eq_true_eq] at h
      obtain ⟨⟨⟨⟨⟨rfl, rfl⟩, hp⟩, ha⟩, hb⟩, hc⟩ := h
      exact dt_cm2 G.ctx (mtE_ok a ha G tk) (mtE_ok b hb G tk) (mtE_ok c hc G tk) (pl_mark hp)
    · cases h
  | .ands ts, e, sc, os, X, W, h, G, tk => by
    unfold mtT at h
    split at h
    · rw [Bool.and_eq_true] at h
      exact dw_t (mtTA_ok ts h.1 (by simpa using h.2) G tk)
    · cases h
  | .ors ts, e, sc, os, X, W, h, G, tk => by
    unfold mtT at h
    split at h
    · rw [Bool.and_eq_true] at h
      exact dw_t (mtTO_ok ts h.1 (by simpa using h.2) G tk)
    · cases h
  | .nt t, e, sc, os, X, W, h, G, tk => by
    unfold mtT at h
    split at h
    · exact dt_not (mtT_ok t h G tk)
    · cases h
  | .din b k o, e, sc, os, X, W, h, G, tk => by
    unfold mtT at h
    split at h
    · simp only [Bool.and_eq_true, decide_eq_true_eq] at h
      obtain ⟨⟨⟨rfl, hp⟩, ha⟩, hb⟩ := h
      exact dt_din G.ctx (mtE_ok o hb G tk) (mtE_ok k ha G tk) (pl_mark hp)
    · cases h
theorem mtC_ok : ∀ (ce : CTs) {es : List Expr} {sc os : Scope} {X : Cx} {W : WX}, mtTs S N sc os ce es = true → (match ce with
        | .nil => true
        | .cons _ .nil => true
        | _ => false) = true → Gd S T fa Φ k N sc os X → Takes X W → DC T X W es (evC Φ ce)
  | .nil, es, sc, os, X, W, h, _, G, tk => by
    unfold mtTs at h
    rw [List.isEmpty_iff.mp h]
    exact dc_nil
  | .cons t .nil, es, sc, os, X, W, h, _, G, tk => by
    unfold mtTs at h
    split at h
    · rw [Bool.and_eq_true] at h
      obtain ⟨h1, h2⟩ := h
      unfold mtTs at h2
      rw [List.isEmpty_iff.mp h2]
      exact dc_one (mtT_ok t h1 G tk)
    · cases h
  | .cons t (.cons _ _), es, sc, os, X, W, h, hc, G, tk => nomatch hc
theorem mtI_ok : ∀ (ce : CI) {e tg : Expr} {sc os : Scope} {X : Cx} {W : WX}, mtI S N sc os ce e tg = true → Gd S T fa Φ k N sc os X → Takes X W → IT T X W tg e ce (evI Φ ce)
  | .slot i, e, tg, sc, os, X, W, h, G, tk => by
    unfold mtI at h
    split at h
    · simp only [Bool.and_eq_true, decide_eq_true_eq] at h
      obtain ⟨v1, v2, v3⟩ := visB_ok G h.2
      exact it_slot G.ctx (by rw [G.eN]; exact h.1) v1 v2 v3 _
    · cases h
  | .seq a, e, tg, sc, os, X, W, h, G, tk => by
    unfold mtI at h
    exact it_of (di_seq G.ctx (mtE_ok a h G tk)) rfl
  | .rng1 a, e, tg, sc, os, X, W, h, G, tk => by
    unfold mtI at h
    split at h
    · simp only [Bool.and_eq_true, decide_eq_true_eq] at h
      obtain ⟨⟨⟨⟨rfl, h1⟩, h2⟩, h3⟩, h4⟩ := h
      exact it_of (di_rng1 (mtE_ok a h4 G tk) (glB_ok G h2).1 (free_mg G h1) (star1 h3)) rfl
    · cases h
  | .rng3 a b c, e, tg, sc, os, X, W, h, G, tk => by
    unfold mtI at h
    split at h
    · simp only [Bool.and_eq_true, decide_eq_true_eq] at h
      obtain ⟨⟨⟨⟨⟨⟨⟨⟨rfl, h1⟩, h2⟩, h3⟩, h4⟩, h5⟩, h6⟩, h7⟩, h8⟩ := h
      exact it_of (di_rng3 (mtE_ok a h6 G tk) (mtE_ok b h7 G tk) (mtE_ok c h8 G tk) (glB_ok G h2).1 (free_mg G h1) (by rw [pl_star h3, pl_star h4, star1 h5]) (by rw [pl_star h4, star1 h5]) (star1 h5)) rfl
    · cases h
  | .rng2 a b, e, tg, sc, os, X, W, h, G, tk => by
    unfold mtI at h
    split at h
    · simp only [Bool.and_eq_true, decide_eq_true_eq] at h
      obtain ⟨⟨⟨⟨⟨⟨rfl, h1⟩, h2⟩, h3⟩, h4⟩, h5⟩, h6⟩ := h
      exact it_of (di_rng2 (mtE_ok a h5 G tk) (mtE_ok b h6 G tk) (glB_ok G h2).1 (free_mg G h1) (by rw [pl_star h3, star1 h4]) (star1 h4)) rfl
    · cases h
  | .enum a, e, tg, sc, os, X, W, h, G, tk => by
    unfold mtI at h
    split at h
    · simp only [Bool.and_eq_true, decide_eq_true_eq] at h
      obtain ⟨⟨⟨⟨rfl, h1⟩, h2⟩, h3⟩, h4⟩ := h
      exact it_of (di_enum G.ctx (mtE_ok a h4 G tk) (glB_ok G h2).1 (free_mg G h1) (star1 h3)) rfl
    · cases h
  | .zip2 a b, e, tg, sc, os, X, W, h, G, tk => by
    unfold mtI at h
    split at h
    · simp only [Bool.and_eq_true, decide_eq_true_eq] at h
      obtain ⟨⟨⟨⟨⟨⟨rfl, h1⟩, h2⟩, h3⟩, h4⟩, h5⟩, h6⟩ := h
      exact it_of (di_zip2 G.ctx (mtE_ok a h5 G tk) (mtE_ok b h6 G tk) (glB_ok G h2).1 (free_mg G h1) (pl_star h3) (star1 h4)) rfl
    · cases h
  | .zipM a b, e, tg, sc, os, X, W, h, G, tk => by
    unfold mtI at h
    split at h
    · simp only [Bool.and_eq_true, decide_eq_true_eq] at h
      obtain ⟨⟨⟨⟨⟨⟨rfl, h1⟩, h2⟩, h3⟩, h4⟩, h5⟩, h6⟩ := h
      exact it_of (di_zipM G.ctx (mtE_ok a h5 G tk) (mtE_ok b h6 G tk) (glB_ok G h2).1 (free_mg G h1) (pl_star h3) (star1 h4)) rfl
    · cases h
  | .rev a, e, tg, sc, os, X, W, h, G, tk => by
    unfold mtI at h
    split at h
    · simp only [Bool.and_eq_true, decide_eq_true_eq] at h
      obtain ⟨⟨⟨⟨rfl, h1⟩, h2⟩, h3⟩, h4⟩ := h
      exact it_of (di_rev G.ctx (mtE_ok a h4 G tk) (glB_ok G h2).1 (free_mg G h1) (pl_star h3)) rfl
    · cases h
  | .zip4 _ _ _ _, e, tg, sc, os, X, W, h, G, tk => by
    unfold mtI at h
    cases h
  | .enzip _ _, e, tg, sc, os, X, W, h, G, tk => by
    unfold mtI at h
    cases h
theorem mtTA_ok : ∀ (ce : CTs) {es : List Expr} {sc os : Scope} {X : Cx} {W : WX} {pos : Pos}, mtTs S N sc os ce es = true → es ≠ [] → Gd S T fa Φ k N sc os X → Takes X W → DW T X W (.BoolOp .And es pos) (evTA Φ ce)
  | .nil, es, sc, os, X, W, pos, h, hn, G, tk => by
    unfold mtTs at h
    exact absurd (List.isEmpty_iff.mp h) hn
  | .cons a as, es, sc, os, X, W, pos, h, hn, G, tk => by
    unfold mtTs at h
    split at h
    · rename_i x r
      rw [Bool.and_eq_true] at h
      cases r with
      | nil =>
        refine dw_and1 (mtT_ok a h.1 G tk) ?_
        cases as with
        | nil => rfl
        | cons _ _ =>
          have h2 := h.2
          unfold mtTs at h2
          cases h2
      | cons y r => exact dw_and (mtT_ok a h.1 G tk) (mtTA_ok as h.2 (fun z => nomatch z) G tk)
    · cases h
theorem mtTO_ok : ∀ (ce : CTs) {es : List Expr} {sc os : Scope} {X : Cx} {W : WX} {pos : Pos}, mtTs S N sc os ce es = true → es ≠ [] → Gd S T fa Φ k N sc os X → Takes X W → DW T X W (.BoolOp .Or es pos) (evTO Φ ce)
  | .nil, es, sc, os, X, W, pos, h, hn, G, tk => by
    unfold mtTs at h
    exact absurd (List.isEmpty_iff.mp h) hn
  | .cons a as, es, sc, os, X, W, pos, h, hn, G, tk => by
    unfold mtTs at h
    split at h
    · rename_i x r
      rw [Bool.and_eq_true] at h
      cases r with
      | nil =>
        refine dw_or1 (mtT_ok a h.1 G tk) ?_
        cases as with
        | nil => rfl
        | cons _ _ =>
          have h2 := h.2
          unfold mtTs at h2
          cases h2
      | cons y r => exact dw_or (mtT_ok a h.1 G tk) (mtTO_ok as h.2 (fun z => nomatch z) G tk)
    · cases h
end
end
end Dv
end
section
set_option Elab.async false
set_option maxRecDepth 100000
set_option linter.all false
/-! The matcher is right: statements -/
namespace Dv
open PySem PySem.Spec L2
/-- name = [..] keeps no list of its own on the way -/
def swB (sc : Scope) (x : Str) (p : Pos) : Expr → Bool
  | .ListComp _ _ scope pos => lk sc x == some .local && (p.line == pos.line) && !(scope.names.any fun (n, k) => n == x && (k == .local || k == .cell))
  | _ => false
def isLc : Expr → Bool
  | .ListComp .. => true
  | _ => false
def nsB : Expr → Expr → Bool
  | .Tuple ts _ _, .Tuple vs _ _ => !(ts.length == 2 || ts.length == 3) || vs.length != ts.length || vs.all (foldedForSure 8)
  | .List _ _, _ => false
  | _, _ => true
/-- a, b = x, y whose stores are exchanged -/
def swpB (sc : Scope) (ns : List (Str × Pos)) (vs : List Expr) : Bool := (ns.all fun p => lk sc p.1 == some .local && p.2.line == ((ns.head?.map (·.2.line)).getD 0)) && decide ((ns.map (·.1)).Nodup) && !(vs.all (foldedForSure 8)) && !(vs.all (constantsAlone 8)) && vs.all plB
section
variable (S : Sta) (N : List Str) (sc : Scope) (as : List Nat)
mutual
def mtS : CS → Stmt → Bool
  | .expr a, s => (match s with
    | .Expr e _ => lcB e && mtE S N sc sc a e
    | _ => false)
  | .ret a, s => (match s with
    | .Return (some e) _ => mtE S N sc sc a e
    | _ => false)
  | .retN, s => (match s with
    | .Return none _ => true
    | _ => false)
  | .pass, s => (match s with
    | .Pass _ => true
    | _ => false)
  | .brk, s => (match s with
    | .Break _ => true
    | _ => false)
  | .cont, s => (match s with
    | .Continue _ => true
    | _ => false)
  | .set i a, s => (match s with
    | .Assign [.Name x p] e pos => decide (N[i]? = some x) && stoB sc x && as.contains i && (lcB e || isLc e) && mtE S N sc sc a e
    | _ => false)
  | .setT g a, s => (match s with
    | .Assign [tg] e _ => plB tg && lcB e && nsB tg e && mtG N sc g tg && (tgSlots g).all (fun i => as.contains i) && mtE S N sc sc a e
    | _ => false)
  | .par is es, s => (match is, s with
    | [i, j], .Assign [.Tuple [.Name x px, .Name y py] _ _] (.Tuple [a, b] _ _) _ => decide (N[i]? = some x) && decide (N[j]? = some y) && decide (i ≠ j) && as.contains i && as.contains j && swpB sc [(x, px), (y, py)] [a, b] && mtEs S N sc sc es [a, b]
    | [i, j, l], .Assign [.Tuple [.Name x px, .Name y py, .Name z pz] _ _] (.Tuple [a, b, c] _ _) _ => decide (N[i]? = some x) && decide (N[j]? = some y) && decide (N[l]? = some z) && decide (i ≠ j) && decide (i ≠ l) && decide (j ≠ l) &&
      as.contains i && as.contains j && as.contains l && swpB sc [(x, px), (y, py), (z, pz)] [a, b, c] && mtEs S N sc sc es [a, b, c]
    | _, _ => false)
  | .aug i o a, s => (match s with
    | .AugAssign (.Name x _) p e _ => decide (o = p) && decide (N[i]? = some x) && stoB sc x && as.contains i && mtE S N sc sc a e
    | _ => false)
  | .setIx i b a, s => (match s with
    | .Assign [.Subscript (.Name x _) y _] e _ => decide (N[i]? = some x) && stoB sc x && visB sc x && plB y && lcB e && mtE S N sc sc a e && mtE S N sc sc b y
    | _ => false)
  | .augIx i b o a, s => (match s with
    | .AugAssign (.Subscript (.Name x _) y _) p e _ => decide (o = p) && decide (N[i]? = some x) && stoB sc x && visB sc x && plB y && mtE S N sc sc a e && mtE S N sc sc b y
    | _ => false)
  | .fset i f tb a, s => (match s with
    | .Assign [.Attribute (.Name x _) g _] e _ => decide (f = g) && decide (N[i]? = some x) && visB sc x && tbB S f tb && lcB e && mtE S N sc sc a e
    | _ => false)
  | .fsetK i f tb a, s => (match s with
    | .Assign [.Attribute (.Name x _) g _] e _ => decide (f = g) && decide (N[i]? = some x) && visB sc x && tbB S f tb && lcB e && mtE S N sc sc a e
    | _ => false)
  | .iff t a b, s => (match s with
    | .If c xs ys _ => mtT S N sc sc t c && mtSs a xs && mtSs b ys
    | _ => false)
  | .whl t b, s => (match s with
    | .While c xs [] _ => mtT S N sc sc t c && mtSs b xs
    | _ => false)
  | .for_ g it b, s => (match s with
    | .For tg e xs [] _ => plB e && mtG N sc g tg && (tgSlots g).all (fun i => as.contains i) && mtI S N sc sc it e tg && (match lendOf it with
        | some i => !as.contains i
        | none => true) && mtSs b xs
    | _ => false)
  | .raise c, s => (match s with
    | .Raise (some (.Call (.Name x _) [.Constant (.str _) _ _] [] _)) none _ => decide (S.exs[c]? = some x) && glB sc x
    | _ => false)
  | .raiseN _ _, _ => false
  | .tryAs b k subs i j, s => (match s with
    | .Try xs [.ExceptHandler (some (.Name x _)) (some n) [.Assign [.Name y _] (.Name n' _) _] _] [] [] _ => decide (n = n') && decide (S.exs[k]? = some x) && glB sc x && (S.exm.any fun q => decide (q = (k, subs))) && decide (N[i]? = some n) && (lk sc n == some .local) && !(n == ("__debug__" : Str)) && !(n == ("__classdict__" : Str)) &&
        decide (N[j]? = some y) && stoB sc y && decide (i ≠ j) && as.contains i && as.contains j && mtSs b xs
    | _ => false)
  | .tryOnly _ _ _ _ _, _ => false
  | .superInit _ _ _, _ => false
def mtSs : CSs → List Stmt → Bool
  | .nil, ss => ss.isEmpty
  | .cons a b, ss => (match ss with
    | s :: r => mtS a s && mtSs b r
    | [] => false)
end
end
/-- the context of statements -/
structure Gs (S : Sta) (T : Tb) (fa : Nat → Addr) (Φ : Nat → Fn) (k : Nat) (N : List Str) (sc : Scope) (W : WX) (X : Cx) : Prop where
  g : Gd S T fa Φ k N sc sc X
  tk : Takes X W
  po : PassesOwn (model X.prog X.w) X.A X.env X.xe
  st : X.stack = X.env :: X.outer
  fr : X.env.frame = some X.env.locals
  ex : X.ex = []
section
variable {S : Sta} {T : Tb} {fa : Nat → Addr} {Φ : Nat → Fn} {k : Nat} {N : List Str} {sc os : Scope} {X : Cx} {W : WX} {as : List Nat} {np : Nat}
theorem Gs.tr (G : Gs S T fa Φ k N sc W X) {W' : WX} {pn : List (Addr × Obj)} {xe : Value → Shared → Prop} (tk : Takes (X.tr pn xe) W') (po : PassesOwn (model X.prog X.w) X.A X.env xe) : Gs S T fa Φ k N sc W' (X.tr pn xe) where
  g := ⟨⟨G.g.ctx.K, G.g.ctx.calm, G.g.ctx.nd, G.g.ctx.un⟩, G.g.eN, G.g.eS, G.g.room, G.g.kd, G.g.sto, G.g.wd, G.g.fns⟩
  tk := tk
  po := po
  st := G.st
  fr := G.fr
  ex := G.ex
theorem sw_false {x : Str} {p : Pos} {e : Expr} {n : Nat} {env : Env} (hs : env.scope = sc) (hk : sc.kind = .function) (he : isLc e = true) (h : swB sc x p e = false) : swapsWith e (some (.Name x p)) n env = pure false := by
  cases e <;> first | cases he | skip
  rename_i elt gs scope pos
  have hb : env.blockKind = .function := by unfold Env.blockKind; rw [hs, hk]; rfl
  unfold swB lk at h
  unfold swapsWith
  simp only [hb, Env.kindOf, hs, Expr.pos]
  exact congrArg (pure (f := Sem)) h
theorem ns_none {tg e : Expr} {env : Env} (h : nsB tg e = true) : swappedStores [tg] e env = pure none := by
  unfold swappedStores
  cases tg <;> first | rfl | skip
  · cases h
  · rename_i ts k1 p1
    cases e <;> first | rfl | skip
    rename_i vs k2 p2
    have h' : (!(ts.length == 2 || ts.length == 3) || vs.length != ts.length || vs.all (foldedForSure 8)) = true := h
    dsimp only
    split
    · rfl
    · rename_i c1
      split
      · rfl
      · split
        · rfl
        · rw [if_pos]
          simp only [Bool.or_eq_true, not_or] at c1 h'
          rcases h' with (h' | h') | h'
          · exact absurd h' c1.1.1
          · exact absurd h' c1.1.2
          · exact h'
def isSt : Expr → Bool
  | .Starred .. => true
  | _ => false
theorem no_star {a : Expr} (h : plB a = true) : isSt a = false := by
  cases a <;> first | rfl | cases h
theorem swp2 {x y : Str} {px py pt pt2 : Pos} {kt k2 : Nat} {a b : Expr} {env : Env} (hs : env.scope = sc) (hk : sc.kind = .function) (h : swpB sc [(x, px), (y, py)] [a, b] = true) :
    swappedStores [.Tuple [.Name x px, .Name y py] kt pt] (.Tuple [a, b] k2 pt2) env = pure (some [x, y]) := by
  have hb : env.blockKind = .function := by unfold Env.blockKind; rw [hs, hk]; rfl
  unfold swpB lk at h
  simp only [Bool.and_eq_true, List.all_cons, List.all_nil, Bool.and_true, decide_eq_true_eq, beq_iff_eq, Bool.not_eq_true'] at h
  obtain ⟨⟨⟨⟨⟨⟨h1, h2⟩, h3, h4⟩, h5⟩, h6⟩, h7⟩, h8, h9⟩ := h
  have hxy : x ≠ y := by simpa using h5
  have e1 : env.kindOf x = some .local := by unfold Env.kindOf; rw [hs]; exact h1
  have e2 : env.kindOf y = some .local := by unfold Env.kindOf; rw [hs]; exact h3
  have hl : py.line = px.line := by simpa using h4
  have sa := no_star h8
  have sb := no_star h9
  unfold swappedStores
  dsimp only
  rw [hb]
  refine (if_neg (show ¬ ((!((2 : Nat) == 2 || (2 : Nat) == 3) || (2 : Nat) != 2 || ScopeKind.function != ScopeKind.function) = true) by decide)).trans ?_
  refine (if_neg (show ¬ ([a, b].any isSt = true) by simp [sa, sb])).trans ?_
  generalize hL : List.filterMap _ [Expr.Name x px, Expr.Name y py] = L
  have eL : L = [x, y] := by
    rw [← hL]
    simp [e1, e2, hl, Expr.pos]
  subst eL
  refine (if_neg (by simp [List.eraseDups_cons, hxy, Ne.symm hxy])).trans ?_
  refine (if_neg (by simp only [List.all_cons, List.all_nil, Bool.and_true]; rw [h6]; decide)).trans ?_
  exact if_neg (by simp only [List.all_cons, List.all_nil, Bool.and_true]; rw [h7]; decide)
theorem swp3 {x y z : Str} {px py pz pt pt2 : Pos} {kt k2 : Nat} {a b c : Expr} {env : Env} (hs : env.scope = sc) (hk : sc.kind = .function) (h : swpB sc [(x, px), (y, py), (z, pz)] [a, b, c] = true) :
    swappedStores [.Tuple [.Name x px, .Name y py, .Name z pz] kt pt] (.Tuple [a, b, c] k2 pt2) env = pure (some [x, y, z]) := by
  have hb : env.blockKind = .function := by unfold Env.blockKind; rw [hs, hk]; rfl
  unfold swpB lk at h
  simp only [Bool.and_eq_true, List.all_cons, List.all_nil, Bool.and_true, decide_eq_true_eq, beq_iff_eq, Bool.not_eq_true'] at h
  obtain ⟨⟨⟨⟨⟨⟨h1, h2⟩, ⟨h3, h4⟩, h10, h11⟩, h5⟩, h6⟩, h7⟩, h8, h9, h12⟩ := h
  have hd : (x ≠ y ∧ x ≠ z) ∧ y ≠ z := by simpa using h5
  obtain ⟨⟨hxy, hxz⟩, hyz⟩ := hd
  have e1 : env.kindOf x = some .local := by unfold Env.kindOf; rw [hs]; exact h1
  have e2 : env.kindOf y = some .local := by unfold Env.kindOf; rw [hs]; exact h3
  have e3 : env.kindOf z = some .local := by unfold Env.kindOf; rw [hs]; exact h10
  have hl : py.line = px.line := by simpa using h4
  have hl2 : pz.line = px.line := by simpa using h11
  have sa := no_star h8
  have sb := no_star h9
  have sd := no_star h12
  unfold swappedStores
  dsimp only
  rw [hb]
  refine (if_neg (show ¬ ((!((3 : Nat) == 2 || (3 : Nat) == 3) || (3 : Nat) != 3 || ScopeKind.function != ScopeKind.function) = true) by decide)).trans ?_
  refine (if_neg (show ¬ ([a, b, c].any isSt = true) by simp [sa, sb, sd])).trans ?_
  generalize hL : List.filterMap _ [Expr.Name x px, Expr.Name y py, Expr.Name z pz] = L
  have eL : L = [x, y, z] := by
    rw [← hL]
    simp [e1, e2, e3, hl, hl2, Expr.pos]
  subst eL
  refine (if_neg (by simp [List.eraseDups_cons, hxy, hxz, hyz, Ne.symm hxy, Ne.symm hxz, Ne.symm hyz])).trans ?_
  refine (if_neg (by simp only [List.all_cons, List.all_nil, Bool.and_true]; rw [h6]; decide)).trans ?_
  exact if_neg (by simp only [List.all_cons, List.all_nil, Bool.and_true]; rw [h7]; decide)
end
end Dv
end
section
set_option Elab.async false
set_option maxRecDepth 100000
set_option linter.all false
set_option linter.unusedSimpArgs false
/-! The matcher is right: statements -/
namespace Dv
open PySem PySem.Spec L2
section
variable {S : Sta} {T : Tb} {fa : Nat → Addr} {Φ : Nat → Fn} {k : Nat} {N : List Str} {sc os : Scope} {as : List Nat} {np : Nat}
theorem sub_all {is : List Nat} (h : (is.all fun i => as.contains i) = true) : ∀ i ∈ is, i ∈ as := fun i hi => List.contains_iff_mem.mp (List.all_eq_true.mp h i hi)
mutual
theorem mtS_ok : ∀ (cs : CS) {st : Stmt} {X : Cx} {W : WX}, mtS S N sc as cs st = true → Gs S T fa Φ k N sc W X → DS T X W np as st (evS Φ np cs)
  | .expr a, st, X, W, h, G => by
    unfold mtS at h
    split at h
    · rw [Bool.and_eq_true] at h
      exact ds_expr (mtE_ok a h.2 G.g G.tk) (lc_swap h.1)
    · cases h
  | .ret a, st, X, W, h, G => by
    unfold mtS at h
    split at h
    · exact ds_ret (mtE_ok a h G.g G.tk)
    · cases h
  | .retN, st, X, W, h, G => by
    unfold mtS at h
    split at h
    · exact ds_retN
    · cases h
  | .pass, st, X, W, h, G => by
    unfold mtS at h
    split at h
    · exact ds_pass
    · cases h
  | .brk, st, X, W, h, G => by
    unfold mtS at h
    split at h
    · exact ds_brk
    · cases h
  | .cont, st, X, W, h, G => by
    unfold mtS at h
    split at h
    · exact ds_cont
    · cases h
  | .set i a, st, X, W, h, G => by
    unfold mtS at h
    split at h
    · rename_i x p e pos
      simp only [Bool.and_eq_true, decide_eq_true_eq] at h
      obtain ⟨⟨⟨⟨h1, h2⟩, h3⟩, h4⟩, h5⟩ := h
      have nm := stoB_ok G.g h1 h2
      have hi : i ∈ as := List.contains_iff_mem.mp h3
      by_cases hl : lcB e = true
      · exact ds_set G.g.ctx nm hi (mtE_ok a h5 G.g G.tk) (lc_swap hl)
      · have he : isLc e = true := by
          rw [Bool.or_eq_true] at h4
          exact h4.resolve_left hl
        cases hw : swB sc x p e with
        | false => exact ds_set G.g.ctx nm hi (mtE_ok a h5 G.g G.tk) (sw_false G.g.eS G.g.kd he hw)
        | true =>
          cases e <;> first | cases he | skip
          rename_i elt gs scope cpos
          have hw' : (lk sc x == some .local && (p.line == cpos.line) && !(scope.names.any fun (n, k) => n == x && (k == .local || k == .cell))) = true := hw
          simp only [Bool.and_eq_true, beq_iff_eq, Bool.not_eq_true'] at hw'
          cases a with
          | lc own g it c a =>
            unfold mtE at h5
            split at h5
            · rename_i x' tg iter ifs scope' pos' heq
              cases heq
              simp only [Bool.and_eq_true] at h5
              obtain ⟨⟨⟨⟨⟨⟨⟨⟨k1, k2⟩, k3⟩, k4⟩, k5⟩, k6⟩, k7⟩, k8⟩, k9⟩ := h5
              have ok : BlkOk X.N X.env.scope scope (own.map fun i => (((N[i]?).getD "" : Str), i)) := by
                rw [G.g.eN, G.g.eS]
                exact blkOk_by k1
              have hk := ok.kind
              have hsl : ∀ i ∈ tgSlots g, i ∈ (own.map fun i => (((N[i]?).getD "" : Str), i)).map (·.2) := fun i hi => by
                rw [own_map]
                exact List.contains_iff_mem.mp (List.all_eq_true.mp k4 i hi)
              have hln : ∀ i, lendOf it = some i → i ∉ (own.map fun i => (((N[i]?).getD "" : Str), i)).map (·.2) := fun i hi => by
                rw [own_map]
                rw [hi] at k9
                simpa using k9
              have hxl : X.env.scope.names.lookup x = some .local := by
                rw [G.g.eS]
                exact hw'.1.1
              have := ds_setLc (W := W) (np := np) (p := p) (apos := pos) (pos := cpos) G.g.ctx nm hxl hi (sw_true (by rw [G.g.eS]; exact G.g.kd) hxl (by simpa using hw'.1.2) hw'.2) ok (mtI_ok it k5 G.g G.tk) (fun s H C cl fp => mtG_ok g k3 (G.g.blk hk s H C cl fp) hsl)
                (fun s H C cl fp => mtC_ok c k6 k8 (G.g.blk hk s H C cl fp) takes_blk) (fun s H C cl fp => mtE_ok a k7 (G.g.blk hk s H C cl fp) takes_blk) (pl_fold k2) hln
              rw [own_map] at this
              exact this
            · cases h5
          | _ => unfold mtE at h5; cases h5
    · cases h
  | .setT g a, st, X, W, h, G => by
    unfold mtS at h
    split at h
    · simp only [Bool.and_eq_true] at h
      obtain ⟨⟨⟨⟨⟨h1, h2⟩, h3⟩, h4⟩, h5⟩, h6⟩ := h
      exact ds_setT G.g.ctx (mtG_ok g h4 G.g (sub_all h5)) (mtE_ok a h6 G.g G.tk) (lc_swapS h2) (ns_none h3) (by rw [ae_pl h1]; rfl)
    · cases h
  | .par is es, st, X, W, h, G => by
    unfold mtS at h
    split at h
    · simp only [Bool.and_eq_true, decide_eq_true_eq] at h
      obtain ⟨⟨⟨⟨⟨⟨h1, h2⟩, h3⟩, h4⟩, h5⟩, h6⟩, h7⟩ := h
      have h6' := h6
      unfold swpB lk at h6
      simp only [Bool.and_eq_true, List.all_cons, List.all_nil, Bool.and_true, decide_eq_true_eq, beq_iff_eq, Bool.not_eq_true'] at h6
      exact ds_par2 G.g.ctx (by rw [G.g.eN]; exact h1) (by rw [G.g.eN]; exact h2) h3 (by rw [G.g.eS]; exact h6.1.1.1.1.1.1) (by rw [G.g.eS]; exact h6.1.1.1.1.2.1) (mtD_ok es h7 G.g G.tk) (swp2 G.g.eS G.g.kd h6') (List.contains_iff_mem.mp h4) (List.contains_iff_mem.mp h5)
    · simp only [Bool.and_eq_true, decide_eq_true_eq] at h
      obtain ⟨⟨⟨⟨⟨⟨⟨⟨⟨⟨h1, h2⟩, h3⟩, h4⟩, h5⟩, h6⟩, h7⟩, h8⟩, h9⟩, h10⟩, h11⟩ := h
      have h10' := h10
      unfold swpB lk at h10
      simp only [Bool.and_eq_true, List.all_cons, List.all_nil, Bool.and_true, decide_eq_true_eq, beq_iff_eq, Bool.not_eq_true'] at h10
      exact ds_par3 G.g.ctx (by rw [G.g.eN]; exact h1) (by rw [G.g.eN]; exact h2) (by rw [G.g.eN]; exact h3) h4 h5 h6 (by rw [G.g.eS]; exact h10.1.1.1.1.1.1) (by rw [G.g.eS]; exact h10.1.1.1.1.2.1.1) (by rw [G.g.eS]; exact h10.1.1.1.1.2.2.1) (mtD_ok es h11 G.g G.tk) (swp3 G.g.eS G.g.kd h10')
        (List.contains_iff_mem.mp h7) (List.contains_iff_mem.mp h8) (List.contains_iff_mem.mp h9)
    · cases h
  | .aug i o a, st, X, W, h, G => by
    unfold mtS at h
    split at h
    · simp only [Bool.and_eq_true, decide_eq_true_eq] at h
      obtain ⟨⟨⟨⟨rfl, h1⟩, h2⟩, h3⟩, h4⟩ := h
      exact ds_aug G.g.ctx (stoB_ok G.g h1 h2) (List.contains_iff_mem.mp h3) (mtE_ok a h4 G.g G.tk)
    · cases h
  | .setIx i b a, st, X, W, h, G => by
    unfold mtS at h
    split at h
    · simp only [Bool.and_eq_true, decide_eq_true_eq] at h
      obtain ⟨⟨⟨⟨⟨⟨h1, h2⟩, h3⟩, h4⟩, h5⟩, h6⟩, h7⟩ := h
      obtain ⟨_, v2, v3⟩ := visB_ok G.g h3
      exact ds_setIx G.g.ctx (stoB_ok G.g h1 h2) v2 v3 (mtE_ok a h6 G.g G.tk) (mtE_ok b h7 G.g G.tk) (pl_ix h4) (pl_sl h4) (lc_swapS h5)
    · cases h
  | .augIx i b o a, st, X, W, h, G => by
    unfold mtS at h
    split at h
    · simp only [Bool.and_eq_true, decide_eq_true_eq] at h
      obtain ⟨⟨⟨⟨⟨⟨rfl, h1⟩, h2⟩, h3⟩, h4⟩, h6⟩, h7⟩ := h
      obtain ⟨_, v2, v3⟩ := visB_ok G.g h3
      exact ds_augIx G.g.ctx (stoB_ok G.g h1 h2) v2 v3 (mtE_ok a h6 G.g G.tk) (mtE_ok b h7 G.g G.tk) (pl_sl h4)
    · cases h
  | .fset i f tb a, st, X, W, h, G => by
    unfold mtS at h
    split at h
    · simp only [Bool.and_eq_true, decide_eq_true_eq] at h
      obtain ⟨⟨⟨⟨⟨rfl, h1⟩, h2⟩, h3⟩, h4⟩, h5⟩ := h
      obtain ⟨v1, v2, v3⟩ := visB_ok G.g h2
      exact ds_fset G.g.ctx G.g.wd.kc (by rw [G.g.eN]; exact h1) v1 v2 v3 (mtE_ok a h5 G.g G.tk) (tbB_ok G.g h3) (lc_swap h4)
    · cases h
  | .fsetK i f tb a, st, X, W, h, G => by
    unfold mtS at h
    split at h
    · simp only [Bool.and_eq_true, decide_eq_true_eq] at h
      obtain ⟨⟨⟨⟨⟨rfl, h1⟩, h2⟩, h3⟩, h4⟩, h5⟩ := h
      obtain ⟨v1, v2, v3⟩ := visB_ok G.g h2
      exact ds_fsetK G.g.ctx G.g.wd.kc (by rw [G.g.eN]; exact h1) v1 v2 v3 (mtE_ok a h5 G.g G.tk) (tbB_ok G.g h3) (lc_swap h4)
    · cases h
  | .iff t a b, st, X, W, h, G => by
    unfold mtS at h
    split at h
    · simp only [Bool.and_eq_true] at h
      exact ds_iff (mtT_ok t h.1.1 G.g G.tk) (mtSs_ok a h.1.2 G) (mtSs_ok b h.2 G)
    · cases h
  | .whl t b, st, X, W, h, G => by
    unfold mtS at h
    split at h
    · simp only [Bool.and_eq_true] at h
      exact ds_whl (n := fuel) G.po (mtT_ok t h.1 G.g G.tk) (mtSs_ok b h.2 G)
    · cases h
  | .for_ g it b, st, X, W, h, G => by
    unfold mtS at h
    split at h
    · simp only [Bool.and_eq_true] at h
      obtain ⟨⟨⟨⟨⟨h1, h2⟩, h3⟩, h4⟩, h5⟩, h6⟩ := h
      refine ds_for G.g.ctx G.po (mtI_ok it h4 G.g G.tk) (mtG_ok g h2 G.g (sub_all h3)) (mtSs_ok b h6 G) (pl_fold h1) fun i hi => ?_
      rw [hi] at h5
      simpa using h5
    · cases h
  | .raise c, st, X, W, h, G => by
    unfold mtS at h
    split at h
    · simp only [Bool.and_eq_true, decide_eq_true_eq] at h
      obtain ⟨h1, h2⟩ := h
      obtain ⟨g1, g2, g3⟩ := glB_ok G.g h2
      obtain ⟨w1, w2, w3, w4, w5⟩ := G.g.wd.ex _ _ h1
      refine ds_raise G.g.ctx G.tk (by rw [G.g.wd.ne]; exact (List.getElem?_eq_some_iff.mp h1).1) ⟨?_, ?_, ?_, ?_, w1⟩ g1 g2
      · rw [G.g.ctx.K]; exact w2
      · rw [G.g.ctx.K]; exact w3
      · rw [G.g.ctx.K]; exact w4
      · rw [G.g.ctx.K]; exact w5
    · cases h
  | .raiseN _ _, st, X, W, h, G => by
    unfold mtS at h
    cases h
  | .tryAs b q subs i j, st, X, W, h, G => by
    unfold mtS at h
    split at h
    · simp only [Bool.and_eq_true, decide_eq_true_eq, beq_iff_eq, Bool.not_eq_true'] at h
      obtain ⟨⟨⟨⟨⟨⟨⟨⟨⟨⟨⟨⟨⟨rfl, h1⟩, h2⟩, h3⟩, h4⟩, h5⟩, h6⟩, h7⟩, h8⟩, h9⟩, h10⟩, h11⟩, h12⟩, h13⟩ := h
      obtain ⟨g1, g2, g3⟩ := glB_ok G.g h2
      obtain ⟨w1, w2, w3, w4, w5⟩ := G.g.wd.ex _ _ h1
      rw [List.any_eq_true] at h3
      obtain ⟨qq, hq, eq⟩ := h3
      have eq' := of_decide_eq_true eq
      subst eq'
      exact ds_tryAs G.g.ctx G.tk G.st G.fr G.ex (by rw [G.g.eN]; exact h4) (by rw [G.g.eS]; exact h5) (stoB_ok G.g h8 h9) h10 h6 h7 ⟨g1, g2, .inl w1⟩ (fun c hc => by rw [G.g.ctx.K]; exact G.g.wd.exm q subs hq c hc)
        (List.contains_iff_mem.mp h11) (List.contains_iff_mem.mp h12) (fun W' pn xe tk' po' => mtSs_ok b h13 (G.tr tk' po'))
    · cases h
  | .tryOnly _ _ _ _ _, st, X, W, h, G => by
    unfold mtS at h
    cases h
  | .superInit _ _ _, st, X, W, h, G => by
    unfold mtS at h
    cases h
theorem mtSs_ok : ∀ (cs : CSs) {ss : List Stmt} {X : Cx} {W : WX}, mtSs S N sc as cs ss = true → Gs S T fa Φ k N sc W X → DSs T X W np as ss (evSs Φ np cs)
  | .nil, ss, X, W, h, G => by
    unfold mtSs at h
    rw [List.isEmpty_iff.mp h]
    exact dss_nil
  | .cons a b, ss, X, W, h, G => by
    unfold mtSs at h
    split at h
    · rw [Bool.and_eq_true] at h
      exact dss_cons (mtS_ok a h.1 G) (mtSs_ok b h.2 G)
    · cases h
end
end
end Dv
end
section
set_option Elab.async false
set_option maxRecDepth 100000
set_option linter.all false
/-! Defs keep their promises -/
namespace Dv
open PySem PySem.Spec L2

def frzSV : SV → SV
  | .fv y => SV.dat y.frz
  | x => x
theorem entry_get {asg : List Nat} : ∀ {xs : List SV} {k i : Nat}, (entry asg k xs)[i]? = (xs[i]?).map fun x => if asg.contains (k + i) then frzSV x else x
  | [], k, i => by simp [entry]
  | x :: xs, k, 0 => by
    simp only [entry, List.getElem?_cons_zero, Option.map_some, Nat.add_zero]
    congr 1
  | x :: xs, k, i + 1 => by
    simp only [entry, List.getElem?_cons_succ]
    rw [entry_get]
    congr 1
    funext y
    rw [show k + 1 + i = k + (i + 1) by omega]
theorem entry_len {asg : List Nat} : ∀ {xs : List SV} {k : Nat}, (entry asg k xs).length = xs.length
  | [], k => rfl
  | x :: xs, k => by
    simp only [entry, List.length_cons]
    rw [entry_len]
theorem entryOk_get {asg : List Nat} : ∀ {xs : List SV} {k i : Nat} {x : SV}, entryOk asg k xs = true → xs[i]? = some x → asg.contains (k + i) = true → ∃ y, x = .fv y
  | [], k, i, x, h, e, a => by simp at e
  | z :: xs, k, 0, x, h, e, a => by
    simp at e
    subst e
    unfold entryOk at h
    rw [Bool.and_eq_true] at h
    have a' : asg.contains k = true := a
    rw [a'] at h
    cases z with
    | fv y => exact ⟨y, rfl⟩
    | ins c ds => exact absurd h.1 Bool.false_ne_true
  | z :: xs, k, i + 1, x, h, e, a => by
    unfold entryOk at h
    rw [Bool.and_eq_true] at h
    exact entryOk_get (i := i) h.2 (by simpa using e) (by rw [show k + 1 + i = k + (i + 1) by omega]; exact a)
theorem exit_get {asg : List Nat} {ρ : En} : ∀ {xs ys : List SV} {k : Nat}, exitA asg ρ k xs = some ys → ys.length = xs.length ∧ ∀ (i : Nat) (y : SV), ys[i]? = some y → ∃ x, xs[i]? = some x ∧ ((isOwn x = true ∧ asg.contains (k + i) = false ∧ ρ[k + i]? = some (some y)) ∨ (¬ (isOwn x = true ∧ asg.contains (k + i) = false) ∧ y = x))
  | [], ys, k, h => by
    cases (show some [] = some ys from h)
    exact ⟨rfl, fun i y e => by simp at e⟩
  | x :: xs, ys, k, h => by
    unfold exitA at h
    split at h
    · rename_i y ys' e1 e2
      cases h
      obtain ⟨h1, h2⟩ := exit_get e2
      refine ⟨by rw [List.length_cons, List.length_cons, h1], fun i z e => ?_⟩
      cases i with
      | zero =>
        simp at e
        subst e
        refine ⟨x, rfl, ?_⟩
        rw [Nat.add_zero]
        split at e1
        · rename_i c
          rw [Bool.and_eq_true, Bool.not_eq_true'] at c
          split at e1
          · rename_i y' e3
            cases e1
            exact .inl ⟨c.1, c.2, e3⟩
          · cases e1
        · rename_i c
          cases e1
          refine .inr ⟨fun z => c ?_, rfl⟩
          rw [z.1, z.2]
          rfl
      | succ i =>
        obtain ⟨x', e3, e4⟩ := h2 i z (by simpa using e)
        refine ⟨x', by simpa using e3, ?_⟩
        rw [show k + (i + 1) = k + 1 + i by omega]
        exact e4
    · cases h
/-- the slots that a def may store to -/
def asOf (c : CF) : List Nat := (List.range c.n).filter fun i => decide (c.np ≤ i) || c.asg.contains i
open Classical in
/-- the frozen part, whose an address is, when the parameters that are stored to are frozen -/
noncomputable def eF (asg : List Nat) (F H : Hp) (w : Wn) : Hp := fun a => if ∃ i, w a = some i ∧ asg.contains i = true then H a else F a
open Classical in
noncomputable def eW (asg : List Nat) (w : Wn) : Wn := fun a => if ∃ i, w a = some i ∧ asg.contains i = true then none else w a
open Classical in
noncomputable def xW (np : Nat) (w : Wn) : Wn := fun a => if ∃ i, w a = some i ∧ i < np then w a else none
section
variable {T : Tb} {F H F' H' : Hp} {w w' : Wn} {σ : St} {ρ : En} {vs : List V} {xs : List SV} {asg : List Nat}
theorem entry_ok (O : Ok T F H w (vs.map some) (xs.map some)) (he : entryOk asg 0 xs = true) : Ok T (eF asg F H w) H (eW asg w) (vs.map some) ((entry asg 0 xs).map some) ∧ Sp2 F H w (eF asg F H w) H (eW asg w) := by
  have le : Le F (eF asg F H w) := fun a o h => by
    unfold eF
    split
    · rename_i c
      obtain ⟨i, c1, _⟩ := c
      rw [(O.own a i c1).1] at h
      cases h
    · exact h
  have wsome : ∀ {a i}, eW asg w a = some i → w a = some i ∧ asg.contains i = false := fun {a i} h => by
    unfold eW at h
    split at h
    · cases h
    · rename_i c
      refine ⟨h, ?_⟩
      cases e : asg.contains i with
      | false => rfl
      | true => exact absurd ⟨i, h, e⟩ c
  refine ⟨⟨fun a o h => ?_, fun a i h => ?_, by rw [List.length_map, entry_len]; have := O.len; rw [List.length_map] at this; exact this, fun i x h => ?_⟩, ⟨le, fun a o h hw => h, fun a h => h, fun a h hw hf => ?_, fun a i h => .inl (wsome h).1⟩⟩
  · unfold eF at h
    split at h
    · exact h
    · exact O.sub a o h
  · obtain ⟨h1, h2⟩ := wsome h
    refine ⟨?_, (O.own a i h1).2⟩
    unfold eF
    rw [if_neg]
    · exact (O.own a i h1).1
    · rintro ⟨j, c1, c2⟩
      rw [h1] at c1
      cases c1
      rw [h2] at c2
      cases c2
  · rw [List.getElem?_map] at h
    cases ex : (entry asg 0 xs)[i]? with
    | none => rw [ex] at h; cases h
    | some x' =>
      rw [ex] at h
      cases h
      rw [entry_get] at ex
      cases e0 : xs[i]? with
      | none => rw [e0] at ex; cases ex
      | some x0 =>
        rw [e0] at ex
        have ex' : (if asg.contains (0 + i) then frzSV x0 else x0) = x := Option.some.inj ex
        rw [Nat.zero_add] at ex'
        obtain ⟨v, q1, q2⟩ := O.sl i x0 (by rw [List.getElem?_map, e0]; rfl)
        refine ⟨v, q1, ?_⟩
        split at ex'
        · rename_i ha
          obtain ⟨y, rfl⟩ := entryOk_get he e0 (by rw [Nat.zero_add]; exact ha)
          subst ex'
          cases y with
          | dat d => exact Rep.mono le d v q2
          | lst ds =>
            obtain ⟨a, us, rfl, h1, h2, h3⟩ := q2
            refine ⟨a, us, rfl, ?_, Reps.mono le ds us h3⟩
            unfold eF
            rw [if_pos ⟨i, h1, ha⟩]
            exact h2
        · rename_i ha
          subst ex'
          refine q2.mono le fun a hw => ⟨?_, fun o z => z⟩
          unfold eW
          rw [if_neg]
          · exact hw
          · rintro ⟨j, c1, c2⟩
            rw [hw] at c1
            cases c1
            exact ha c2
  · unfold eF
    rw [if_neg]
    · exact hf
    · rintro ⟨i, c1, _⟩
      rw [hw] at c1
      cases c1
theorem ok_pad {n : Nat} (O : Ok T F H w σ ρ) : Ok T F H w (σ ++ List.replicate n none) (ρ ++ List.replicate n none) := ⟨O.sub, O.own, by rw [List.length_append, List.length_append, O.len, List.length_replicate, List.length_replicate], fun i x h => by
  by_cases hi : i < ρ.length
  · rw [List.getElem?_append_left hi] at h
    rw [List.getElem?_append_left (by rw [← O.len]; exact hi)]
    exact O.sl i x h
  · rw [List.getElem?_append_right (by omega), List.getElem?_replicate] at h
    split at h <;> cases h⟩
/-- behind the body: what the caller gets -/
theorem exit_ok {c : CF} {σ' : St} {ys : List SV} (O : Ok T F H w (vs.map some) (xs.map some)) (hw : ∀ a i, w a = some i → i < vs.length) (hnp : xs.length = c.np) (hn : c.np ≤ c.n) (he : entryOk c.asg 0 xs = true)
    (O1 : Ok T (eF c.asg F H w) H (eW c.asg w) (vs.map some) ((entry c.asg 0 xs).map some)) (s1 : Sp2 F H w (eF c.asg F H w) H (eW c.asg w)) (O' : Ok T F' H' w' σ' ρ) (s' : Sp2 (eF c.asg F H w) H (eW c.asg w) F' H' w')
    (kp : Kp (asOf c) (vs.map some ++ List.replicate (c.n - c.np) none) σ') (hx : exitA c.asg ρ 0 (entry c.asg 0 xs) = some ys) :
    Ok T F' H' (xW c.np w') (vs.map some) (ys.map some) ∧ Sp2 F H w F' H' (xW c.np w') ∧ ∀ x v, RtOk T c.np H (eW c.asg w) F' H' w' x v → TvOk T H F' H' (xW c.np w') x v := by
  have hvl : vs.length = xs.length := by
    have := O.len
    rw [List.length_map, List.length_map] at this
    exact this.symm
  have xsome : ∀ {a i}, xW c.np w' a = some i → w' a = some i ∧ i < c.np := fun {a i} h => by
    unfold xW at h
    split at h
    · rename_i cc
      obtain ⟨j, c1, c2⟩ := cc
      rw [h] at c1
      cases c1
      exact ⟨h, c2⟩
    · cases h
  have xat : ∀ {a i}, w' a = some i → i < c.np → xW c.np w' a = some i := fun {a i} h hi => by
    unfold xW
    rw [if_pos ⟨i, h, hi⟩]
    exact h
  obtain ⟨hl, hget⟩ := exit_get hx
  rw [entry_len] at hl
  have s2 := s1.trans s'
  refine ⟨⟨O'.sub, fun a i h => O'.own a i (xsome h).1, by rw [List.length_map, List.length_map, hl, hvl], fun i y h => ?_⟩, ⟨s2.ext, s2.same, s2.keep, s2.nofr, fun a i h => s2.ownd a i (xsome h).1⟩, fun x v r => ?_⟩
  · rw [List.getElem?_map] at h
    cases ey : ys[i]? with
    | none => rw [ey] at h; cases h
    | some y' =>
      rw [ey] at h
      cases h
      obtain ⟨x, ex, hh⟩ := hget i y ey
      rw [Nat.zero_add] at hh
      obtain ⟨v, q1, q2⟩ := O1.sl i x (by rw [List.getElem?_map, ex]; rfl)
      have hi : i < vs.length := by
        have := (List.getElem?_eq_some_iff.mp q1).1
        rw [List.length_map] at this
        exact this
      have hinp : i < c.np := by omega
      refine ⟨v, q1, ?_⟩
      rcases hh with ⟨h1, h2, h3⟩ | ⟨h1, rfl⟩
      · obtain ⟨u, q3, q4⟩ := O'.sl i y h3
        have hk := kp.2 i (by
          unfold asOf
          rw [List.mem_filter]
          rintro ⟨_, z⟩
          rw [h2, Bool.or_false] at z
          have := of_decide_eq_true z
          omega)
        rw [List.getElem?_append_left (by rw [List.length_map]; exact hi), q1, q3] at hk
        cases hk
        exact q4.mono (fun _ _ z => z) fun a ha => ⟨xat ha hinp, fun o z => z⟩
      · have hd : ∃ d, y = .dat d := by
          rw [entry_get] at ex
          cases e0 : xs[i]? with
          | none => rw [e0] at ex; cases ex
          | some x0 =>
            rw [e0] at ex
            have ex' : (if c.asg.contains (0 + i) then frzSV x0 else x0) = y := Option.some.inj ex
            rw [Nat.zero_add] at ex'
            split at ex'
            · rename_i ha
              obtain ⟨z, rfl⟩ := entryOk_get he e0 (by rw [Nat.zero_add]; exact ha)
              exact ⟨_, ex'.symm⟩
            · rename_i ha
              have ha' : c.asg.contains i = false := by simpa using ha
              cases y with
              | fv z =>
                cases z with
                | dat d => exact ⟨d, rfl⟩
                | lst ds => exact absurd ⟨rfl, ha'⟩ h1
              | ins cc ds => exact absurd ⟨rfl, ha'⟩ h1
        obtain ⟨d, rfl⟩ := hd
        exact Rep.mono s'.ext d v q2
  · cases x with
    | dat d => exact r
    | lst ds =>
      obtain ⟨a, us, rfl, h1, h2, h3, h4, h5⟩ := r
      refine ⟨a, us, rfl, ?_, ?_, h3, h4, h5⟩
      · rcases h1 with h1 | ⟨j, h1, hj⟩
        · exact h1
        · exfalso
          have : w a = some j := by
            unfold eW at h1
            split at h1
            · cases h1
            · exact h1
          have := hw a j this
          omega
      · unfold xW
        rw [if_neg]
        rintro ⟨i, c1, _⟩
        rw [h2] at c1
        cases c1
end
end Dv
end
section
set_option Elab.async false
set_option maxRecDepth 100000
set_option linter.all false
/-! Each def keeps its promise; the program -/
namespace Dv
open PySem PySem.Spec L2

section
variable {S : Sta} {T : Tb} {fa : Nat → Addr} {P : Program} {w : World} {mg : Str → Option Value} {base : Heap} {Φ : Nat → Fn} {k : Nat}
/-- a def, by the matcher -/
theorem fn_keeps {N ps : List Str} {name qual : Str} {params : Arguments} {body : List Stmt} {scope : Scope} {f : Addr} {fd : FuncData} {c : CF} (F : FunD T.K name qual params body scope [] [] f fd) (sc : FnScope N ps scope) (hN : N.length = c.n) (hp : ps.length = c.np)
    (wd : Wd S T fa mg) (hm : mtSs S N scope (asOf c) c.body body = true)
    (fns : ∀ f y, S.fn.lookup f = some y → ∃ fd ps, Binds T.K fd ps [] ∧ FnOk P w T.K mg base (L2.CX P w) k (fa f) fd ps (spOf T (Φ f))) :
    FnOk P w T.K mg base (L2.CX P w) (k + 2) f fd ps (spOf T (fnOf Φ c)) := by
  have hle : c.np ≤ c.n := by
    have := congrArg List.length sc.pre
    rw [List.length_take] at this
    omega
  have spx : ∀ {vs : List V} {H : Hp} {Q : VK} {E : XK}, spOf T (fnOf Φ c) vs H Q E → ∃ (F0 : Hp) (w0 : Wn) (xs : List SV), Ok T F0 H w0 (vs.map some) (xs.map some) ∧ (∀ a i, w0 a = some i → i < vs.length) ∧ (xs.length = c.np ∧ entryOk c.asg 0 xs = true) ∧
      (evSs Φ c.np c.body ((entry c.asg 0 xs).map some ++ List.replicate (c.n - c.np) none)).holds
        (fun fl ρ => ∃ x ys, (fl = .rt x ∨ (fl = .nx ∧ x = .dat .non)) ∧ exitA c.asg ρ 0 (entry c.asg 0 xs) = some ys ∧ ∀ F' H' w' v, Ok T F' H' w' (vs.map some) (ys.map some) → Sp2 F0 H w0 F' H' w' → TvOk T H F' H' w' x v → Q v H')
        (fun e ρ => ∃ ys, exitA c.asg ρ 0 (entry c.asg 0 xs) = some ys ∧ ∀ F' H' w', Ok T F' H' w' (vs.map some) (ys.map some) → Sp2 F0 H w0 F' H' w' → ∀ cls d, ExOk T F' e cls d → E cls d H') := fun {vs H Q E} h => by
    obtain ⟨F0, w0, xs, O, hw, h⟩ := h
    refine ⟨F0, w0, xs, O, hw, ?_⟩
    unfold fnOf at h
    split at h
    · rename_i x ys e
      split at e
      · rename_i hc
        refine ⟨hc, ?_⟩
        split at e
        · rename_i x' ρ eb
          rw [eb]
          split at e
          · rename_i ys' ex
            cases e
            exact ⟨x, ys, .inl rfl, ex, h⟩
          · cases e
        · rename_i ρ eb
          rw [eb]
          split at e
          · rename_i ys' ex
            cases e
            exact ⟨_, ys, .inr ⟨rfl, rfl⟩, ex, h⟩
          · cases e
        · split at e <;> cases e
        · cases e
      · cases e
    · rename_i x ys e
      split at e
      · rename_i hc
        refine ⟨hc, ?_⟩
        split at e
        · split at e <;> cases e
        · split at e <;> cases e
        · rename_i e' ρ eb
          rw [eb]
          split at e
          · rename_i ys' ex
            cases e
            exact ⟨ys, ex, h⟩
          · cases e
        · cases e
      · cases e
    · exact h.elim
  refine F.ok sc (fun vs H Q E h => ?_) (k := k + 1) (fun cdv A outer s H vs Q E hr h => ⟨twSs _ body, pss_twSs, ?_⟩)
  · obtain ⟨F0, w0, xs, O, hw, ⟨h1, _⟩, _⟩ := spx h
    have := O.len
    rw [List.length_map, List.length_map] at this
    omega
  · obtain ⟨F0, w0, xs, O, hw, ⟨h1, h2⟩, h3⟩ := spx h
    have hvl : vs.length = c.np := by
      have := O.len
      rw [List.length_map, List.length_map] at this
      omega
    have G : Gs S T fa Φ k N scope (fun cls d _ H' => E cls d H') (cxOf (L2.CX P w) P w T.K mg base N qual scope f cdv A outer s H E) := by
      refine ⟨⟨⟨rfl, rfl, sc.nd, by have := hr.un; show (A.deeper _).units + 65 < cLine; omega⟩, rfl, rfl, hr, sc.kind, fun x hx => ⟨hx, .inl rfl⟩, wd, fns⟩, takes_of rfl rfl rfl rfl, passes_of rfl, rfl, rfl, rfl⟩
    obtain ⟨O1, s1⟩ := entry_ok O h2
    have es : L2.start N vs = vs.map some ++ List.replicate (c.n - c.np) none := by
      unfold L2.start
      rw [hN, hvl]
    rw [es]
    refine (mtSs_ok (np := c.np) c.body hm G) _ H _ _ _ _ (ok_pad O1) (Out.holds_imp h3 (fun fl ρ q F' H' w' σ' O' s' k' => ?_) fun e ρ q F' H' w' σ' O' s' k' cls d xd => ?_)
    · obtain ⟨x, ys, hfl, hx, hq⟩ := q
      obtain ⟨m1, m2, m3⟩ := exit_ok O hw h1 hle h2 O1 s1 O' s' k' hx
      rcases hfl with rfl | ⟨rfl, rfl⟩
      · exact fun v r => hq F' H' _ v m1 m2 (m3 x v r)
      · exact hq F' H' _ .non m1 m2 rfl
    · obtain ⟨ys, hx, hq⟩ := q
      obtain ⟨m1, m2, m3⟩ := exit_ok O hw h1 hle h2 O1 s1 O' s' k' hx
      exact hq F' H' _ m1 m2 cls d xd
/-- .. and is so -/
structure DfOk (S : Sta) (T : Tb) (f : Addr) (d : Df) (c : CF) : Prop where
  fn : ∃ fd, FunD T.K d.name d.qual d.params d.body d.scope [] [] f fd ∧ Binds T.K fd d.ps []
  sc : FnScope d.N d.ps d.scope
  hN : d.N.length = c.n
  hp : d.ps.length = c.np
  hm : mtSs S d.N d.scope (asOf c) c.body d.body = true
/-- THE PROGRAM: each def of the table keeps the promise that the evaluator reckons -/
theorem prog_ok {code : Nat → Option CF} (wd : Wd S T fa mg) (h : ∀ f y, S.fn.lookup f = some y → ∃ d c, code f = some c ∧ DfOk S T (fa f) d c) : ∀ (n : Nat) f y, S.fn.lookup f = some y → ∃ fd ps, Binds T.K fd ps [] ∧ FnOk P w T.K mg base (L2.CX P w) (2 * n) (fa f) fd ps (spOf T (phi code n f))
  | 0, f, y, e => by
    obtain ⟨d, c, _, k⟩ := h f y e
    obtain ⟨fd, F, b⟩ := k.fn
    refine ⟨fd, d.ps, b, ⟨fun vs H Q E z => ?_, fun A outer s H args us vs Q E _ _ _ _ z => ?_⟩⟩
    · obtain ⟨_, _, _, _, _, z⟩ := z
      exact z.elim
    · obtain ⟨_, _, _, _, _, z⟩ := z
      exact z.elim
  | n + 1, f, y, e => by
    obtain ⟨d, c, ec, k⟩ := h f y e
    obtain ⟨fd, F, b⟩ := k.fn
    have := fn_keeps (P := P) (w := w) (base := base) (mg := mg) (k := 2 * n) (Φ := phi code n) F k.sc k.hN k.hp wd k.hm (prog_ok wd h n)
    refine ⟨fd, d.ps, b, ?_⟩
    have ep : phi code (n + 1) f = fnOf (phi code n) c := by
      show (match code f with | some c => fnOf (phi code n) c | none => fun _ => .stuck) = _
      rw [ec]
    rw [ep]
    exact this
end
end Dv
end
section
set_option Elab.async false
set_option maxRecDepth 100000
set_option linter.all false
/-! The head: what is true of the module, read off its heap -/
namespace Dv
open PySem PySem.Spec PyProof.Rows L2

theorem vOf_ok {T : Tb} {F : Hp} : ∀ {d : Dv.D} {v : V}, vOf d = some v → Rep T F d v
  | .non, v, h => by cases h; exact (rfl : V.non = V.non)
  | .bl b, v, h => by cases h; exact (rfl : V.bl b = V.bl b)
  | .int i, v, h => by cases h; exact (rfl : V.int i = V.int i)
  | .str x, v, h => by cases h; exact (rfl : V.str x = V.str x)
theorem vsOf_ok {T : Tb} {F : Hp} : ∀ {ds : List Dv.D} {vs : List V}, vsOf ds = some vs → Reps T F ds vs
  | [], vs, h => by cases h; exact (rfl : ([] : List V) = [])
  | d :: ds, vs, h => by
    unfold vsOf at h
    split at h
    · rename_i v us e1 e2
      cases h
      exact ⟨v, us, rfl, vOf_ok e1, vsOf_ok e2⟩
    · cases h
theorem tupB_ok {K : PySem.W.Frag} {a : Addr} {vs : List V} (h : tupB K a vs = true) (H : Hp) : SqT K H a vs ∧ ∃ ob, K.lookup a = some ob ∧ ob.cls = .type "tuple" ∧ ob.dict = none := by
  unfold tupB at h
  cases q : K.lookup a with
  | none =>
    rw [q] at h
    cases h
  | some o =>
    obtain ⟨oc, od, dt, osl⟩ := o
    rw [q] at h
    cases oc with
    | type c =>
      cases od with
      | none =>
        cases dt with
        | seq its n =>
          obtain ⟨h1, h2⟩ := He.ba (show (decide (c = "tuple") && (decide (its.size ≤ sizeLine) && He.relAll vs its.toList)) = true from h)
          obtain ⟨h3, h4⟩ := He.ba h2
          have e : c = "tuple" := of_decide_eq_true h1
          subst e
          exact ⟨.inr ⟨_, its, n, q, rfl, rfl, of_decide_eq_true h3, He.relAll_ok h4⟩, _, rfl, rfl, rfl⟩
        | _ => cases h
      | some a => cases dt <;> cases h
    | _ => cases od <;> cases dt <;> cases h
section
variable {K : PySem.W.Frag} {h : Heap} {mg : Str → Option Value}
theorem gloB_ok (X : K.In h) (G : h.Ns mainGlobals mg) {T : Tb} (hT : T.K = K) {x : Str} {d : Dv.D} (c : gloB K x d = true) :
    ∃ v u, mg x = some u ∧ RelV v u ∧ (∀ F, Rep T F d v) ∧ ∀ ds, d = .tup ds → ∃ p ob, v = .ref p ∧ T.K.lookup p = some ob ∧ ob.cls = .type "tuple" ∧ ob.dict = none := by
  have atom : ∀ {v : V}, vOf d = some v → (match vOf d, PySem.W.nsIn K mainGlobals x with
    | some v, some (some u) => He.relB v u
    | _, _ => false) = true → ∃ u, mg x = some u ∧ RelV v u := fun {v} e c => by
    rw [e] at c
    cases q : PySem.W.nsIn K mainGlobals x with
    | none => rw [q] at c; cases c
    | some o =>
      rw [q] at c
      cases o with
      | none => cases c
      | some u => exact ⟨u, PySem.W.mg_of X G q, He.relB_ok c⟩
  have fin : ∀ {v : V}, vOf d = some v → (∀ ds, d ≠ .tup ds) → gloB K x d = (match vOf d, PySem.W.nsIn K mainGlobals x with
    | some v, some (some u) => He.relB v u
    | _, _ => false) → ∃ v u, mg x = some u ∧ RelV v u ∧ (∀ F, Rep T F d v) ∧ ∀ ds, d = .tup ds → ∃ p ob, v = .ref p ∧ T.K.lookup p = some ob ∧ ob.cls = .type "tuple" ∧ ob.dict = none := fun {v} e ne eq => by
    rw [eq] at c
    obtain ⟨u, h1, h2⟩ := atom e c
    exact ⟨v, u, h1, h2, fun F => vOf_ok e, fun ds z => absurd z (ne ds)⟩
  cases d with
  | non => exact fin rfl (fun _ z => nomatch z) rfl
  | bl b => exact fin rfl (fun _ z => nomatch z) rfl
  | int i => exact fin rfl (fun _ z => nomatch z) rfl
  | str i => exact fin rfl (fun _ z => nomatch z) rfl
  | tup ds =>
    have c2 : (match vsOf ds with
      | some vs => (He.Fa.glo x).ok K && tupB K (He.ga K x) vs
      | none => false) = true := c
    cases e : vsOf ds with
    | none => rw [e] at c2; cases c2
    | some vs =>
      rw [e] at c2
      obtain ⟨c3, c4⟩ := He.ba c2
      obtain ⟨_, ob, l1, l2, l3⟩ := tupB_ok c4 (fun _ => none)
      refine ⟨.ref (He.ga K x), _, He.glo_ok X G c3, rfl, fun F => ⟨_, vs, rfl, ?_, vsOf_ok e⟩, fun _ _ => ⟨_, ob, rfl, ?_, l2, l3⟩⟩
      · rw [hT]
        exact (tupB_ok c4 F).1
      · rw [hT]
        exact l1
  | lst ds => cases c
  | scr ds => cases c
  | tpk ds => cases c
  | ins c' ds => cases c
  | exc c' ds => cases c
  | dct c' ds => cases c
end
/-! ### the facts -/
theorem excCB_ok {K : PySem.W.Frag} {D : Addr} (h : excCB K D = true) (s : spB K = true) : ExcC K D := by
  obtain ⟨h1, h⟩ := He.ba h
  obtain ⟨h2, h⟩ := He.ba h
  obtain ⟨h3, h⟩ := He.ba h
  obtain ⟨h4, h⟩ := He.ba h
  obtain ⟨h5, h6⟩ := He.ba h
  obtain ⟨s1, s2⟩ := He.ba s
  exact ⟨of_decide_eq_true h1, of_decide_eq_true h2, of_decide_eq_true h3, h4, of_decide_eq_true h5, of_decide_eq_true s1, of_decide_eq_true s2, of_decide_eq_true h6⟩
theorem upB_ok {S : Sta} {K : PySem.W.Frag} {c f : Nat} {x m : Str} (hb : upB S K (c, f) = true) (hf : S.fn.lookup f = some (x, some m)) : Up K (He.ga K (clsN S c)) m (faOf S K f) := by
  unfold upB at hb
  dsimp only at hb
  rw [hf] at hb
  dsimp only at hb
  obtain ⟨b1, hb⟩ := He.ba hb
  obtain ⟨b2, hb⟩ := He.ba hb
  obtain ⟨b3, b4⟩ := He.ba hb
  refine ⟨b1, of_decide_eq_true b2, ?_, b4⟩
  split at b3
  · rename_i v ev
    rw [ev, of_decide_eq_true b3]
  · cases b3
def wdB (S : Sta) (K : PySem.W.Frag) : Bool :=
  spB K && ((List.range S.cls.length).all (clsB S K) && ((List.range S.exs.length).all (exB S K) && (S.tys.all (tyB S K) && (S.free.all (fun x => (He.Fa.free x).ok K) &&
  (S.glo.all (fun p => gloB K p.1 p.2) && (S.fn.all (fnB K) && (S.meth.all (methB S K) && (S.init.all (initB S K) && (S.up.all (upB S K) && S.exm.all (exmB S K))))))))))
theorem lt_of_get {α : Type} {l : List α} {c : Nat} {x : α} (h : l[c]? = some x) : c < l.length := (List.getElem?_eq_some_iff.mp h).1
theorem wd_of {S : Sta} {K : PySem.W.Frag} {h : Heap} {mg : Str → Option Value} (X : K.In h) (G : h.Ns mainGlobals mg) (b : wdB S K = true) : Wd S (tbOf S K) (faOf S K) mg := by
  obtain ⟨b1, b⟩ := He.ba b
  obtain ⟨b2, b⟩ := He.ba b
  obtain ⟨b3, b⟩ := He.ba b
  obtain ⟨b4, b⟩ := He.ba b
  obtain ⟨b5, b⟩ := He.ba b
  obtain ⟨b6, b⟩ := He.ba b
  obtain ⟨b7, b⟩ := He.ba b
  obtain ⟨b8, b⟩ := He.ba b
  obtain ⟨b9, b⟩ := He.ba b
  obtain ⟨b11, b10⟩ := He.ba b
  have inR : ∀ {n : Nat} {p : Nat → Bool}, (List.range n).all p = true → ∀ c, c < n → p c = true := fun hp c hc => List.all_eq_true.mp hp c (List.mem_range.mpr hc)
  have cl : ∀ c, c < S.cls.length → clsB S K c = true := inR b2
  have ex : ∀ c, c < S.exs.length → exB S K c = true := inR b3
  have ty := List.all_eq_true.mp b4
  refine ⟨rfl, rfl, fun c x fs e => ?_, fun c x e => ?_, ⟨fun c hc => ?_, fun c hc => ?_, ?_, fun c hc => ?_, fun t ht n hn => ?_, fun t ht c hc => ?_, fun t ht c hc => ?_, fun c hc f hf => ?_, fun c hc => ?_⟩,
    fun x hx => He.free_ok X G (List.all_eq_true.mp b5 x hx), fun x d hx => gloB_ok X G rfl (List.all_eq_true.mp b6 _ hx), fun f x e => ?_, fun c m f hm => ?_, fun c f hm => ?_, fun c f hm x fs m e1 e2 => upB_ok (List.all_eq_true.mp b11 _ hm) e2, fun k subs hk c hc => ?_⟩
  · have e1 : clsN S c = x := by unfold clsN; rw [e]
    have e2 : (tbOf S K).fl c = fs := by show (match S.cls[c]? with | some p => p.2 | none => []) = fs; rw [e]
    obtain ⟨_, c2⟩ := He.ba (cl c (lt_of_get e))
    obtain ⟨c2, _⟩ := He.ba c2
    refine ⟨e2, ?_⟩
    have := He.glo_ok X G c2
    rw [e1] at this
    show mg x = some (.ref (He.ga K (clsN S c)))
    rw [e1]
    exact this
  · have e1 : exsN S c = x := by unfold exsN; rw [e]
    obtain ⟨c1, c2⟩ := He.ba (ex c (lt_of_get e))
    obtain ⟨c2, c3⟩ := He.ba c2
    have := He.glo_ok X G c2
    rw [e1] at this
    refine ⟨?_, He.exc_ok c1⟩
    show mg x = some (.ref (He.ga K (exsN S c)))
    rw [e1]
    exact this
  · exact He.cls_ok (He.ba (cl c hc)).1
  · obtain ⟨_, c2⟩ := He.ba (cl c hc)
    obtain ⟨_, c2⟩ := He.ba c2
    obtain ⟨_, c2⟩ := He.ba c2
    obtain ⟨c3, c2⟩ := He.ba c2
    obtain ⟨c4, _⟩ := He.ba c2
    exact ⟨of_decide_eq_true c3, of_decide_eq_true c4⟩
  · obtain ⟨s1, s2⟩ := He.ba b1
    exact ⟨of_decide_eq_true s1, of_decide_eq_true s2⟩
  · obtain ⟨c1, c2⟩ := He.ba (ex c hc)
    exact excCB_ok (He.ba c2).2 b1
  · exact of_decide_eq_true (List.all_eq_true.mp (He.ba (ty t ht)).1 n hn)
  · exact of_decide_eq_true (inR (He.ba (He.ba (ty t ht)).2).1 c hc)
  · exact of_decide_eq_true (inR (He.ba (He.ba (ty t ht)).2).2 c hc)
  · obtain ⟨_, c2⟩ := He.ba (cl c hc)
    obtain ⟨_, c2⟩ := He.ba c2
    obtain ⟨c3, _⟩ := He.ba c2
    exact He.noat_ok (List.all_eq_true.mp c3 f hf)
  · obtain ⟨_, c2⟩ := He.ba (cl c hc)
    obtain ⟨_, c2⟩ := He.ba c2
    obtain ⟨_, c2⟩ := He.ba c2
    obtain ⟨_, c2⟩ := He.ba c2
    obtain ⟨_, c5⟩ := He.ba c2
    exact of_decide_eq_true c5
  · have e2 : faOf S K f = He.ga K x := by unfold faOf; rw [e]; rfl
    have mem : (f, (x, none)) ∈ S.fn := lookup_mem e
    obtain ⟨c1, c2⟩ := He.ba (show ((He.Fa.glo x).ok K && (He.Fa.keep x).ok K) = true from List.all_eq_true.mp b7 _ mem)
    rw [e2]
    exact ⟨He.glo_ok X G c1, He.keep_ok c2⟩
  · obtain ⟨c1, c2⟩ := He.ba (List.all_eq_true.mp b8 _ hm)
    have := He.meth_ok c1
    rw [of_decide_eq_true c2] at this
    exact this
  · obtain ⟨c1, c2⟩ := He.ba (List.all_eq_true.mp b9 _ hm)
    have := He.mkr_ok c1
    rw [of_decide_eq_true c2] at this
    exact this
  · exact of_decide_eq_true (inR (List.all_eq_true.mp b10 _ hk) c hc)
where lookup_mem {α β : Type} [BEq α] [LawfulBEq α] {a : α} {b : β} : ∀ {l : List (α × β)}, l.lookup a = some b → (a, b) ∈ l
  | [], h => by cases h
  | (x, y) :: r, h => by
    rw [List.lookup_cons] at h
    split at h
    · rename_i q
      cases h
      rw [eq_of_beq q]
      exact List.mem_cons_self
    · exact List.mem_cons_of_mem _ (lookup_mem h)
/-! ### the Hook -/
abbrev AlV : Type := Bool × List He.FnW
def obsV (S : Sta) (fn : List He.DefD) (K : PySem.W.Frag) : AlV := (wdB S K && fn.all fun d => d.ok K, fn.map fun d => He.fnW K d.at_)
def valV (fn : List He.DefD) : AlV := (true, fn.map He.DefD.val)
def SaysV (S : Sta) (fn : List He.DefD) (K : PySem.W.Frag) : Prop := obsV S fn K = valV fn
theorem frK_eq {α : Type} : ∀ (K : PySem.W.Frag) (k : PySem.W.Frag → α), frK K k = k K
  | [], k => rfl
  | (a, o) :: r, k => by
    unfold frK
    rw [frK_eq r, HandSHeadRun.frNat_eq]
def obsVG (n : Nat) (S : Sta) (fn : List He.DefD) (g : Addr → Option Obj) : AlV := frK (He.frG g (asN g n)) fun K => obsV S fn K
def hookV (n : Nat) (S : Sta) (fn : List He.DefD) : PySem.W.Hook where
  α := AlV
  obs := fun s => obsVG n S fn s.heap.get?
  val := fun _ => valV fn
  says := fun _ h => ∃ K : PySem.W.Frag, K.In h ∧ SaysV S fn K
  of := fun _ _ e => ⟨_, He.frG_in, (frK_eq _ _).symm.trans e⟩
  keeps := fun _ _ _ ⟨K, hK, c⟩ k => ⟨K, PySem.W.Frag.In.keeps hK k, c⟩
theorem obsVG_eq {n : Nat} {S : Sta} {fn : List He.DefD} {g : Addr → Option Obj} {s : Shared} (h : ∀ a, g a = s.heap.get? a) : obsVG n S fn g = (hookV n S fn).obs s := by
  have e : g = s.heap.get? := funext h
  rw [e] <;> rfl
/-! ### the look in parts (each a run of its own: less memory at a time) -/
theorem wd_parts {S : Sta} {K : PySem.W.Frag} (h1 : oA S K = true) (h2 : oB S K = true) (h3 : oC S K = true) : wdB S K = true := by
  unfold oA at h1
  unfold oB at h2
  unfold oC at h3
  unfold wdB
  simp only [Bool.and_eq_true] at *
  exact ⟨h1.1, h1.2.1, h1.2.2.1, h1.2.2.2.1, h1.2.2.2.2.1, h1.2.2.2.2.2, h2.1, h2.2, h3.1, h3.2.1, h3.2.2⟩
theorem run_join {γ : Type} {o : Option PySem.W.SharedT} {n : Nat} {S : Sta} {fn : List He.DefD} {fl : PySem.W.SharedT → Bool} {fs : PySem.W.SharedT → γ} {og : γ}
    (h0 : o.map (fun s => (fl s, fs s)) = some (true, og)) (hA : o.map (onK n (oA S)) = some true) (hB : o.map (onK n (oB S)) = some true) (hC : o.map (onK n (oC S)) = some true) (hD : o.map (onK n (oD fn)) = some true) (hE : o.map (onK n (oE fn)) = some (fn.map He.DefD.val)) :
    o.map (fun s => (fl s, fs s, obsVG n S fn (HandSHeadRun.getT s))) = some (true, og, valV fn) := by
  cases o with
  | none => cases h0
  | some s =>
    simp only [Option.map_some, Option.some.injEq, Prod.mk.injEq] at h0 hA hB hC hD hE ⊢
    refine ⟨h0.1, h0.2, ?_⟩
    unfold onK at hA hB hC hD hE
    unfold obsVG
    rw [frK_eq] at hA hB hC hD hE ⊢
    unfold obsV valV
    rw [wd_parts hA hB hC, hE' hE, Bool.true_and]
    unfold oD at hD
    rw [hD]
where hE' {fn : List He.DefD} {K : PySem.W.Frag} {l : List He.FnW} (h : oE fn K = l) : (fn.map fun d => He.fnW K d.at_) = l := h
section
variable {S : Sta} {fn : List He.DefD} {K : PySem.W.Frag}
theorem SaysV.wd (c : SaysV S fn K) : wdB S K = true := (He.ba (show (wdB S K && fn.all fun d => d.ok K) = true from congrArg (fun z : AlV => z.1) c)).1
theorem SaysV.def_ (c : SaysV S fn K) {d : He.DefD} (h : d ∈ fn) : ∃ fd, FunD K d.name d.qual d.params d.body d.scope (d.dvs K) (d.kws K) (He.fAd K d.at_) fd := by
  have c2 := (He.ba (show (wdB S K && fn.all fun d => d.ok K) = true from congrArg (fun z : AlV => z.1) c)).2
  have e : fn.map (fun d => He.fnW K d.at_) = fn.map He.DefD.val := congrArg (fun z : AlV => z.2) c
  obtain ⟨i, hi⟩ := List.mem_iff_getElem?.mp h
  have e2 : (fn.map fun d => He.fnW K d.at_)[i]? = (fn.map He.DefD.val)[i]? := by rw [e]
  rw [List.getElem?_map, List.getElem?_map, hi] at e2
  exact He.DefD.funD (Option.some.inj e2) (List.all_eq_true.mp c2 d h)
end
end Dv
end
section
set_option Elab.async false
set_option maxRecDepth 100000
set_option linter.all false
/-! The table of a law's defs; the law's end -/
namespace Dv
open PySem PySem.Spec PyProof.Rows L2

def scB (N ps : List Str) (sc : Scope) : Bool := decide (sc.kind = .function) && (!sc.isCoroutine && (!sc.isGenerator && (decide N.Nodup && (decide (N.take ps.length = ps) &&
  ((ps.all fun x => decide (sc.names.lookup x = some .local) || decide (sc.names.lookup x = some .cell)) && (sc.names.all fun y => decide (y.2 ≠ .free)))))))
theorem scB_ok {N ps : List Str} {sc : Scope} (h : scB N ps sc = true) : FnScope N ps sc := by
  obtain ⟨h1, h⟩ := He.ba h
  obtain ⟨h2, h⟩ := He.ba h
  obtain ⟨h3, h⟩ := He.ba h
  obtain ⟨h4, h⟩ := He.ba h
  obtain ⟨h5, h⟩ := He.ba h
  obtain ⟨h6, h7⟩ := He.ba h
  refine ⟨of_decide_eq_true h1, by simpa using h2, by simpa using h3, of_decide_eq_true h4, of_decide_eq_true h5, fun x hx => ?_, fun y hy => of_decide_eq_true (List.all_eq_true.mp h7 y hy)⟩
  have := List.all_eq_true.mp h6 x hx
  rw [Bool.or_eq_true, decide_eq_true_eq, decide_eq_true_eq] at this
  exact this
def rowB (S : Sta) (d : Df) (c : CF) : Bool := scB d.N d.ps d.scope && (decide (d.N.length = c.n) && (decide (d.ps.length = c.np) && mtSs S d.N d.scope (asOf c) c.body d.body))
def Bnd (d : Df) : Prop := ∀ (kV doc pm : Value) (an : Option Addr) (cdv ct : Value) (us : List Value), us.length = d.ps.length → bindArgs (PySem.W.fnOf d.name d.qual d.params d.body d.scope .none kV doc pm an cdv ct) ⟨us, []⟩ = pure (d.ps.zip us)
/-- what is asked of each def -/
def Rows (S : Sta) : List Row → Prop
  | [] => True
  | x :: r => (rowB S x.2.2.1 x.2.2.2 = true ∧ Bnd x.2.2.1) ∧ Rows S r
theorem Rows.mem {S : Sta} : ∀ {l : List Row} {x : Row}, Rows S l → x ∈ l → rowB S x.2.2.1 x.2.2.2 = true ∧ Bnd x.2.2.1
  | y :: r, x, h, hm => by
    rcases List.mem_cons.mp hm with rfl | hm
    · exact h.1
    · exact h.2.mem hm
theorem tab_ok {S : Sta} {ds : List Row} {code : Nat → Option CF} {K : PySem.W.Frag} (hS : S.fn = ds.map fun x => (x.1, x.2.1)) (hc : ds.map (fun x => code x.1) = ds.map fun x => some x.2.2.2) (hr : Rows S ds) (says : SaysV S (ds.map rowD) K) :
    ∀ f y, S.fn.lookup f = some y → ∃ d c, code f = some c ∧ DfOk S (tbOf S K) (faOf S K f) d c := by
  intro f y e
  have hm := wd_of.lookup_mem e
  rw [hS] at hm
  obtain ⟨x, hx, ex⟩ := List.mem_map.mp hm
  have e1 : x.1 = f := congrArg Prod.fst ex
  have e2 : x.2.1 = y := congrArg Prod.snd ex
  obtain ⟨r1, r2⟩ := hr.mem hx
  obtain ⟨b1, b⟩ := He.ba r1
  obtain ⟨b2, b⟩ := He.ba b
  obtain ⟨b3, b4⟩ := He.ba b
  obtain ⟨i, hi⟩ := List.mem_iff_getElem?.mp hx
  have hcx : code x.1 = some x.2.2.2 := by
    have := congrArg (fun l => l[i]?) hc
    simp only [List.getElem?_map, hi, Option.map_some, Option.some.injEq] at this
    exact this
  obtain ⟨fd, F⟩ := says.def_ (d := rowD x) (List.mem_map.mpr ⟨x, hx, rfl⟩)
  have ef : faOf S K f = He.fAd K x.2.1 := by
    unfold faOf
    rw [e, e2]
  refine ⟨x.2.2.1, x.2.2.2, by rw [← e1]; exact hcx, ⟨⟨fd, ?_, ?_⟩, scB_ok b1, of_decide_eq_true b2, of_decide_eq_true b3, b4⟩⟩
  · rw [ef]
    exact F
  · exact FunD.bindsN F r2
theorem ok_script {T : Tb} {H : Hp} {a : Addr} {ns : List Int} (hS : SqL T.K H a (ns.map V.int)) : Ok T H H (fun _ => none) ([V.ref a].map some) ([SV.dat (.scr (ns.map .int))].map some) := by
  refine ⟨fun _ _ h => h, fun a p z => (nomatch z), rfl, fun i x e => ?_⟩
  cases i with
  | zero =>
    have e : x = SV.dat (.scr (ns.map .int)) := by simpa using e.symm
    subst e
    exact ⟨.ref a, rfl, a, ns.map V.int, rfl, hS, reps_of_ints ns⟩
  | succ i => simp at e
/-- a law that answers True by the evaluator -/
def LawOk (code : Nat → Option CF) (n law : Nat) : Prop := ∀ ns : List Int, ns.length ≤ 63 → ∃ ys, phi code n law [.dat (.scr (ns.map .int))] = .ok (.dat (.bl true)) ys
theorem law_sp {T : Tb} {code : Nat → Option CF} {n law : Nat} (L : LawOk code n law) (H : Hp) (a : Addr) (ns : List Int) (hl : ns.length ≤ 63) (hS : SqL T.K H a (ns.map V.int)) :
    spOf T (phi code n law) [.ref a] H (fun v _ => v = .bl true) fun _ _ _ => False := by
  obtain ⟨ys, e⟩ := L ns hl
  refine ⟨H, fun _ => none, [SV.dat (.scr (ns.map .int))], ok_script hS, fun a i z => (nomatch z), ?_⟩
  rw [e]
  exact fun F' H' w' v _ _ r => r
/-- THE END: a law over its head -/
theorem law_end {l : PySem.W.OpenLaw} {S : Sta} {ds : List Row} {code : Nat → Option CF} {m law : Nat} {d : Df} {c : CF} {q : Program} {loose : List Str} {XP : (Str → Option Value) → Heap → Prop} {dr : DefRec}
    (hn : l.most = some 63) (hdf : dr.params.defaults = []) (hroom : Room (2 * (m + 1)) callerA) (hname : dr.name = ("law" : Str)) (hfn : S.fn.lookup law = some (("law" : Str), none)) (hps : ds[ds.length - 1]? = some (law, ((("law" : Str), none) : Str × Option Str), d, c)) (hp1 : d.ps = [("_law_script" : Str)])
    (hS : S.fn = ds.map fun x => (x.1, x.2.1)) (hc : ds.map (fun x => code x.1) = ds.map fun x => some x.2.2.2) (hr : Rows S ds) (L : LawOk code (m + 1) law) :
    PySem.W.WalkO q loose XP (fun _ h => ∃ K : PySem.W.Frag, K.In h ∧ SaysV S (ds.map rowD) K) l.row.toRowW dr [] (fun f vs => PySem.call f vs) := by
  refine Att.attach_call hn hdf fun w t₀ t₁ mg mb fa ob pm' cd' doc' a xs ns G Y _ _ _ hmg hobj hints hlen hg => ?_
  obtain ⟨K, KX, says⟩ := Y
  have W := wd_of KX G.T.g says.wd
  have tab := tab_ok hS hc hr says
  have hmg' : mg ("law" : Str) = some (.ref fa) := by
    rw [← hname]
    exact hmg
  have efa : faOf S K law = fa := by
    have := (W.fn _ _ hfn).1
    rw [this] at hmg'
    cases hmg'
    rfl
  have hx : (law, ((("law" : Str), none) : Str × Option Str), d, c) ∈ ds := List.mem_iff_getElem?.mpr ⟨_, hps⟩
  obtain ⟨fd, F⟩ := says.def_ (d := rowD (law, ((("law" : Str), none) : Str × Option Str), d, c)) (List.mem_map.mpr ⟨_, hx, rfl⟩)
  have hfa : He.fAd K (((("law" : Str), none) : Str × Option Str)) = fa := by
    rw [← efa]
    unfold faOf
    rw [hfn]
  have bind : ∀ (s : Shared) (u : Value), BindsTo s fd ⟨[u], []⟩ [(("_law_script" : Str), u)] := fun s u => by
    have := FunD.bindsA (ps := d.ps) F (hr.mem hx).2 s [u] (by rw [hp1]; rfl)
    rw [hp1] at this
    exact this
  refine law_call KX G.T.g G.T.b G.T.builtins G.T.nolimit hg hobj hints (Nat.le_trans hlen (by decide)) (CX := L2.CX l.row.toRowW.prog w) (k := 2 * (m + 1)) (sp := spOf (tbOf S K) (phi code (m + 1) law)) hroom (fun base hK hB => ?_) bind (fun H _ hS' => law_sp (T := tbOf S K) L H a ns hlen hS') fun H e s' z => ?_
  · have hcl : code law = some c := by
      have := congrArg (fun z => z[ds.length - 1]?) hc
      simp only [List.getElem?_map, hps, Option.map_some, Option.some.injEq] at this
      exact this
    obtain ⟨b1, b⟩ := He.ba (hr.mem hx).1
    obtain ⟨b2, b⟩ := He.ba b
    obtain ⟨b3, b4⟩ := He.ba b
    have F' := fn_keeps (P := l.row.toRowW.prog) (w := w) (base := base) (mg := mg) (k := 2 * m) (Φ := phi code m) F (scB_ok b1) (of_decide_eq_true b2) (of_decide_eq_true b3) W b4 (prog_ok W tab m)
    have ep : phi code (m + 1) law = fnOf (phi code m) c := by
      show (match code law with | some c => fnOf (phi code m) c | none => fun _ => .stuck) = _
      rw [hcl]
    have ea : He.fAd K (rowD (law, ((("law" : Str), none) : Str × Option Str), d, c)).at_ = fa := hfa
    rw [ea] at F'
    rw [ep, ← hp1]
    exact F'
  · obtain ⟨_, _, _, _, _, _, _, _, _, _, _, _, h⟩ := z
    exact h
end Dv
end
section
set_option Elab.async false
set_option maxRecDepth 100000
set_option linter.unusedVariables false
/-! Running the code by rewriting -/
namespace Dv
open PySem PySem.Spec L2
section
variable (Φ : Nat → Fn) (np : Nat) (ρ : En)
theorem bnd_ap {α β : Type} (m : M α) (f : α → M β) : M.bnd m f ρ = match m ρ with
  | .ok a ρ' => f a ρ'
  | .exc e ρ' => .exc e ρ'
  | .stuck => .stuck := rfl
theorem ret_ap {α : Type} (a : α) : M.ret a ρ = .ok a ρ := rfl
theorem opt_some {α : Type} (a : α) : M.opt (some a) ρ = .ok a ρ := rfl
theorem opt_none {α : Type} : M.opt (none : Option α) ρ = .stuck := rfl
theorem takeM_val (x : FV) : takeM (.val x) ρ = .ok x.frz ρ := rfl
theorem storeM_val (i : Nat) (x : FV) : storeM i (.val x) ρ = .ok () (ρ.set i (some (.fv x))) := rfl
theorem getM_val (x : FV) : getM (.val x) ρ = .ok x ρ := rfl
theorem giveM_val (x : FV) : giveM np (.val x) ρ = .ok x ρ := rfl
theorem arOf_val (d : D) : arOf (.val (.dat d)) ρ = .ok (.dat d) ρ := rfl
theorem arOf_tmp (ds : List D) : arOf (.val (.lst ds)) ρ = .ok (.tmp ds) ρ := rfl
theorem getAll_nil : getAll [] ρ = some [] := rfl
section
variable {ρ} {i j : Nat}
theorem var_some {x : SV} (h : ρ[i]? = some (some x)) : varM i ρ = .ok (.slot i) ρ := by unfold varM; rw [h]
theorem getM_slot {x : FV} (h : ρ[i]? = some (some (.fv x))) : getM (.slot i) ρ = .ok x ρ := by
  show M.opt (getSlot ρ i) ρ = _
  unfold getSlot
  rw [h]
  rfl
theorem takeM_dat {d : D} (h : ρ[i]? = some (some (.fv (.dat d)))) : takeM (.slot i) ρ = .ok d ρ := by unfold takeM; dsimp only; rw [h]
theorem takeM_lst {d : List D} (h : ρ[i]? = some (some (.fv (.lst d)))) : takeM (.slot i) ρ = .ok (.lst d) (ρ.set i (some (.dat (.lst d)))) := by unfold takeM; dsimp only; rw [h]
theorem giveM_dat {d : D} (h : ρ[i]? = some (some (.fv (.dat d)))) : giveM np (.slot i) ρ = .ok (.dat d) ρ := by unfold giveM; dsimp only; rw [h]
theorem giveM_own {d : List D} (h : ρ[i]? = some (some (.fv (.lst d)))) (hi : ¬ i < np) : giveM np (.slot i) ρ = .ok (.lst d) (ρ.set i none) := by unfold giveM; dsimp only; rw [h]; simp [hi]
theorem arOf_dat {d : D} (h : ρ[i]? = some (some (.fv (.dat d)))) : arOf (.slot i) ρ = .ok (.dat d) ρ := by unfold arOf; dsimp only; rw [h]
theorem arOf_own {d : List D} (h : ρ[i]? = some (some (.fv (.lst d)))) : arOf (.slot i) ρ = .ok (.own i) ρ := by unfold arOf; dsimp only; rw [h]
end
end
/-! ### the evaluator's equations at a state -/
section
variable (Φ : Nat → Fn) (np : Nat) (ρ : En)
theorem evE :
  (∀ i, ev Φ (.var i) ρ = varM i ρ) ∧
  (∀ d, ev Φ (.lit d) ρ = .ok (.val (.dat d)) ρ) ∧
  (∀ x d, ev Φ (.glo x d) ρ = .ok (.val (.dat d)) ρ) ∧
  (∀ o a b, ev Φ (.bin o a b) ρ = M.bnd (ev Φ a) (fun r => (ev Φ b).bnd fun q => (getM r).bnd fun x => (getM q).bnd fun y => (M.opt (bo o x.frz y.frz)).bnd fun z => M.ret (.val z)) ρ) ∧
  (∀ o a, ev Φ (.un o a) ρ = M.bnd (ev Φ a) (fun r => (getM r).bnd fun x => (M.opt (uo o x.frz)).bnd fun z => M.ret (.val z)) ρ) ∧
  (∀ o a b, ev Φ (.cmp o a b) ρ = M.bnd (ev Φ a) (fun r => (ev Φ b).bnd fun q => (getM r).bnd fun x => (getM q).bnd fun y => (M.opt (co o x.frz y.frz)).bnd fun z => M.ret (.val (.dat (.bl z)))) ρ) ∧
  (∀ o p a b c, ev Φ (.cm2 o p a b c) ρ = M.bnd (ev Φ a) (fun r => (ev Φ b).bnd fun q => (getM r).bnd fun x => (getM q).bnd fun y => (M.opt (co o x.frz y.frz)).bnd fun z => if z then (ev Φ c).bnd fun u => (getM q).bnd fun y' => (getM u).bnd fun v => (M.opt (co p y'.frz v.frz)).bnd fun z' => M.ret (.val (.dat (.bl z'))) else M.ret (.val (.dat (.bl false)))) ρ) ∧
  (∀ es, ev Φ (.ands es) ρ = evAnd Φ es ρ) ∧
  (∀ es, ev Φ (.ors es) ρ = evOr Φ es ρ) ∧
  (∀ a, ev Φ (.nt a) ρ = M.bnd (ev Φ a) (fun r => (getM r).bnd fun x => (M.opt (asBl x)).bnd fun b => M.ret (.val (.dat (.bl (!b))))) ρ) ∧
  (∀ c a b, ev Φ (.ite c a b) ρ = M.bnd (evT Φ c) (fun k => if k then ev Φ a else ev Φ b) ρ) ∧
  (∀ es, ev Φ (.tup es) ρ = M.bnd (evD Φ es) (fun ds => if sz ds.length then M.ret (.val (.dat (.tup ds))) else fun _ => .stuck) ρ) ∧
  (∀ es, ev Φ (.tpk es) ρ = M.bnd (evD Φ es) (fun ds => if sz ds.length then M.ret (.val (.dat (.tpk ds))) else fun _ => .stuck) ρ) ∧
  (∀ es, ev Φ (.lst es) ρ = M.bnd (evD Φ es) (fun ds => if sz ds.length then M.ret (.val (.lst ds)) else fun _ => .stuck) ρ) ∧
  (∀ a b, ev Φ (.ix a b) ρ = M.bnd (ev Φ a) (fun r => (ev Φ b).bnd fun q => (getM r).bnd fun x => (getM q).bnd fun y => (M.opt (ixD x.frz y.frz)).bnd fun z => M.ret (.val (.dat z))) ρ) ∧
  (∀ a lo hi, ev Φ (.slc a lo hi) ρ = M.bnd (ev Φ a) (fun r => (evO Φ lo).bnd fun l => (evO Φ hi).bnd fun h => (getM r).bnd fun x => (M.opt (slD x.frz l h)).bnd fun z => M.ret (.val z)) ρ) ∧
  (∀ a, ev Φ (.slr a) ρ = M.bnd (ev Φ a) (fun r => (getM r).bnd fun x => match x.frz with | .lst ds => M.ret (.val (.lst ds.reverse)) | _ => fun _ => .stuck) ρ) ∧
  (∀ f tb a, ev Φ (.fld f tb a) ρ = M.bnd (ev Φ a) (fun r => (getM r).bnd fun x => match x with | .dat (.ins c ds) => (M.opt ((tb.lookup c).bind fun k => ds[k]?)).bnd fun z => M.ret (.val (.dat z)) | _ => fun _ => .stuck) ρ) ∧
  (∀ f es, ev Φ (.call f es) ρ = M.bnd (evA Φ es) (fun as => callF (Φ f) as) ρ) ∧
  (∀ c n f es, ev Φ (.mk c n f es) ρ = M.bnd (evA Φ es) (fun as => makeF (Φ f) c n as) ρ) ∧
  (∀ m tb o es, ev Φ (.meth m tb o es) ρ = M.bnd (ev Φ o) (fun r => (getM r).bnd fun x => match x with | .dat (.ins c ds) => (M.opt (tb.lookup c)).bnd fun f => (evA Φ es).bnd fun as => callF (Φ f) (.dat (.ins c ds) :: as) | _ => fun _ => .stuck) ρ) ∧
  (∀ b es, ev Φ (.bc b es) ρ = M.bnd (evR Φ es) (fun rs => (getAllM rs).bnd fun xs => (M.opt (bi b (xs.map FV.frz))).bnd fun z => M.ret (.val z)) ρ) ∧
  (∀ b o es, ev Φ (.bm b o es) ρ = M.bnd (ev Φ o) (fun r => (getM r).bnd fun x0 => if bmTy b x0.frz then (evR Φ es).bnd fun rs => (getM r).bnd fun x => (getAllM rs).bnd fun xs => (M.opt (bm b x.frz (xs.map FV.frz))).bnd fun z => M.ret (.val z) else fun _ => .stuck) ρ) ∧
  (∀ m o es, ev Φ (.mm m o es) ρ = M.bnd (ev Φ o) (fun r => (getM r).bnd fun x0 => if isLst x0 then (evD Φ es).bnd fun xs => mmR m r xs else fun _ => .stuck) ρ) ∧
  (∀ a t, ev Φ (.isi a t) ρ = M.bnd (ev Φ a) (fun r => (getM r).bnd fun x => (M.opt (isiD x.frz t)).bnd fun z => M.ret (.val (.dat (.bl z)))) ρ) := by
  refine ⟨?_, ?_, ?_, ?_, ?_, ?_, ?_, ?_, ?_, ?_, ?_, ?_, ?_, ?_, ?_, ?_, ?_, ?_, ?_, ?_, ?_, ?_, ?_, ?_, ?_⟩ <;> intros <;> first | rfl | (simp only [ev, evAnd, evOr, evR, evD, evA, evO, evT, evTA, evTO, evC, evI, evS, evSs, M.ret])
theorem evF :
  (evAnd Φ .nil ρ = .stuck) ∧
  (∀ (e : CE), evAnd Φ (.cons e .nil) ρ = ev Φ e ρ) ∧
  (∀ (e e' : CE) (es : CEs), evAnd Φ (.cons e (.cons e' es)) ρ = M.bnd (ev Φ e) (fun r => (getM r).bnd fun x => (M.opt (asBl x)).bnd fun b => if b then evAnd Φ (.cons e' es) else M.ret (.val (.dat (.bl false)))) ρ) ∧
  (evOr Φ .nil ρ = .stuck) ∧
  (∀ (e : CE), evOr Φ (.cons e .nil) ρ = ev Φ e ρ) ∧
  (∀ (e e' : CE) (es : CEs), evOr Φ (.cons e (.cons e' es)) ρ = M.bnd (ev Φ e) (fun r => (getM r).bnd fun x => (M.opt (truD x.frz)).bnd fun b => if b then M.ret r else evOr Φ (.cons e' es)) ρ) ∧
  (evR Φ .nil ρ = .ok [] ρ) ∧
  (∀ (e : CE) (es : CEs), evR Φ (.cons e es) ρ = M.bnd (ev Φ e) (fun r => (evR Φ es).bnd fun rs => M.ret (r :: rs)) ρ) ∧
  (evD Φ .nil ρ = .ok [] ρ) ∧
  (∀ (e : CE) (es : CEs), evD Φ (.cons e es) ρ = M.bnd ((ev Φ e).bnd takeM) (fun d => (evD Φ es).bnd fun ds => M.ret (d :: ds)) ρ) ∧
  (evA Φ .nil ρ = .ok [] ρ) ∧
  (∀ (e : CE) (es : CEs), evA Φ (.cons e es) ρ = M.bnd ((ev Φ e).bnd arOf) (fun a => (evA Φ es).bnd fun as => M.ret (a :: as)) ρ) ∧
  (evO Φ .no ρ = .ok none ρ) ∧
  (∀ (e : CE), evO Φ (.yes e) ρ = M.bnd (ev Φ e) (fun r => (getM r).bnd fun x => (M.opt (asInt x)).bnd fun i => M.ret (some i)) ρ) ∧
  (∀ (e : CE), evT Φ (.val e) ρ = M.bnd (ev Φ e) (fun r => (getM r).bnd fun x => M.opt (truD x.frz)) ρ) ∧
  (∀ (o : CmpOp) (a b : CE), evT Φ (.cmp o a b) ρ = M.bnd (ev Φ a) (fun r => (ev Φ b).bnd fun q => (getM r).bnd fun x => (getM q).bnd fun y => M.opt (co o x.frz y.frz)) ρ) ∧
  (∀ (o p : CmpOp) (a b c : CE), evT Φ (.cm2 o p a b c) ρ = M.bnd (ev Φ a) (fun r => (ev Φ b).bnd fun q => (getM r).bnd fun x => (getM q).bnd fun y => (M.opt (co o x.frz y.frz)).bnd fun z => if z then (ev Φ c).bnd fun u => (getM q).bnd fun y' => (getM u).bnd fun v => M.opt (co p y'.frz v.frz) else M.ret false) ρ) ∧
  (∀ (ts : CTs), evT Φ (.ands ts) ρ = evTA Φ ts ρ) ∧
  (∀ (ts : CTs), evT Φ (.ors ts) ρ = evTO Φ ts ρ) ∧
  (∀ (t : CT), evT Φ (.nt t) ρ = M.bnd (evT Φ t) (fun b => M.ret (!b)) ρ) ∧
  (evTA Φ .nil ρ = .ok true ρ) ∧
  (∀ (t : CT) (ts : CTs), evTA Φ (.cons t ts) ρ = M.bnd (evT Φ t) (fun b => if b then evTA Φ ts else M.ret false) ρ) ∧
  (evTO Φ .nil ρ = .ok false ρ) ∧
  (∀ (t : CT) (ts : CTs), evTO Φ (.cons t ts) ρ = M.bnd (evT Φ t) (fun b => if b then M.ret true else evTO Φ ts) ρ) ∧
  (evC Φ .nil ρ = .ok true ρ) ∧
  (∀ (t : CT) (ts : CTs), evC Φ (.cons t ts) ρ = evT Φ t ρ) ∧
  (∀ (e : CE), evI Φ (.seq e) ρ = M.bnd ((ev Φ e).bnd takeM) (fun d => M.opt (itemsOf d)) ρ) ∧
  (∀ (e : CE), evI Φ (.enum e) ρ = M.bnd ((ev Φ e).bnd takeM) (fun d => match d with | .lst ds => M.ret (enumD 0 ds) | _ => fun _ => .stuck) ρ) ∧
  (∀ (a b : CE), evI Φ (.zip2 a b) ρ = M.bnd ((ev Φ a).bnd takeM) (fun d => ((ev Φ b).bnd takeM).bnd fun f => match d, f with | .lst xs, .lst ys => M.ret (zipD xs ys) | .tup xs, .tup ys => M.ret (zipD xs ys) | _, _ => fun _ => .stuck) ρ) ∧
  (∀ (a b : CE), evI Φ (.zipM a b) ρ = M.bnd ((ev Φ a).bnd takeM) (fun d => ((ev Φ b).bnd takeM).bnd fun f => match d, f with | .lst xs, .lst ys => M.ret (zipD xs ys) | .tup xs, .tup ys => M.ret (zipD xs ys) | .tup xs, .lst ys => M.ret (zipD xs ys) | _, _ => fun _ => .stuck) ρ) ∧
  (∀ (e : CE), evI Φ (.rev e) ρ = M.bnd ((ev Φ e).bnd takeM) (fun d => match d with | .lst ds => M.ret ds.reverse | .tup ds => M.ret ds.reverse | _ => fun _ => .stuck) ρ) := by
  refine ⟨?_, ?_, ?_, ?_, ?_, ?_, ?_, ?_, ?_, ?_, ?_, ?_, ?_, ?_, ?_, ?_, ?_, ?_, ?_, ?_, ?_, ?_, ?_, ?_, ?_, ?_, ?_, ?_, ?_, ?_, ?_⟩ <;> intros <;> first | rfl | (simp only [ev, evAnd, evOr, evR, evD, evA, evO, evT, evTA, evTO, evC, evI, evS, evSs, M.ret])
theorem evG :
  (∀ (e : CE), evS Φ np (.expr e) ρ = M.bnd (ev Φ e) (fun _ => M.ret .nx) ρ) ∧
  (∀ (e : CE), evS Φ np (.ret e) ρ = M.bnd ((ev Φ e).bnd (giveM np)) (fun x => M.ret (.rt x)) ρ) ∧
  (evS Φ np .retN ρ = .ok (.rt (.dat .non)) ρ) ∧
  (evS Φ np .pass ρ = .ok .nx ρ) ∧
  (evS Φ np .brk ρ = .ok .bk ρ) ∧
  (evS Φ np .cont ρ = .ok .ct ρ) ∧
  (∀ (i : Nat) (e : CE), evS Φ np (.set i e) ρ = M.bnd ((ev Φ e).bnd (storeM i)) (fun _ => M.ret .nx) ρ) ∧
  (∀ (g : Tg) (e : CE), evS Φ np (.setT g e) ρ = M.bnd (((ev Φ e).bnd takeM).bnd (asgT g)) (fun _ => M.ret .nx) ρ) ∧
  (∀ (is : List Nat) (es : CEs), evS Φ np (.par is es) ρ = M.bnd ((evD Φ es).bnd (asgEach is)) (fun _ => M.ret .nx) ρ) ∧
  (∀ (i : Nat) (o : Operator) (e : CE), evS Φ np (.aug i o e) ρ = M.bnd (varM i) (fun _ => ((ev Φ e).bnd (augM i o)).bnd fun _ => M.ret .nx) ρ) ∧
  (∀ (i : Nat) (ix e : CE), evS Φ np (.setIx i ix e) ρ = M.bnd ((ev Φ e).bnd takeM) (fun d => (varM i).bnd fun _ => (ev Φ ix).bnd fun q => (getM q).bnd fun x => (M.opt (asInt x)).bnd fun j => (setAt i j d).bnd fun _ => M.ret .nx) ρ) ∧
  (∀ (i : Nat) (o : Operator) (ix e : CE), evS Φ np (.augIx i ix o e) ρ = M.bnd (varM i) (fun _ => (ev Φ ix).bnd fun q => (getM q).bnd fun x => (M.opt (asInt x)).bnd fun j => (getM (.slot i)).bnd fun y => if isLst y then (M.opt (ixD y.frz (.int j))).bnd fun old => (ev Φ e).bnd fun r => (getM r).bnd fun z => augV i j o old z.frz else fun _ => .stuck) ρ) ∧
  (∀ (i : Nat) (f : Str) (tb : List (Nat × Nat)) (e : CE), evS Φ np (.fset i f tb e) ρ = M.bnd ((ev Φ e).bnd takeM) (fun d => (varM i).bnd fun _ => (fsetM i tb d).bnd fun _ => M.ret .nx) ρ) ∧
  (∀ (t : CT) (a b : CSs), evS Φ np (.iff t a b) ρ = M.bnd (evT Φ t) (fun k => if k then evSs Φ np a else evSs Φ np b) ρ) ∧
  (∀ (t : CT) (b : CSs), evS Φ np (.whl t b) ρ = whlGo (evT Φ t) (evSs Φ np b) fuel ρ) ∧
  (∀ (c : Nat), evS Φ np (.raise c) ρ = .exc ⟨c, []⟩ ρ) ∧
  (∀ (c : Nat) (e : CE), evS Φ np (.raiseN c e) ρ = M.bnd ((ev Φ e).bnd takeM) (fun d ρ => .exc ⟨c, [d]⟩ ρ) ρ) ∧
  (∀ (b : CSs) (c : Nat) (subs : List Nat) (i j : Nat), evS Φ np (.tryAs b c subs i j) ρ = catchAs (evSs Φ np b) subs i j ρ) ∧
  (∀ (b : CSs) (c : Nat) (subs : List Nat) (i : Nat) (e : CE), evS Φ np (.tryOnly b c subs i e) ρ = catchTo (evSs Φ np b) subs (((ev Φ e).bnd (storeM i)).bnd fun _ => M.ret .nx) ρ) ∧
  (evSs Φ np .nil ρ = .ok .nx ρ) ∧
  (∀ (s : CS) (ss : CSs), evSs Φ np (.cons s ss) ρ = M.bnd (evS Φ np s) (fun f => match f with | .nx => evSs Φ np ss | f => M.ret f) ρ) := by
  refine ⟨?_, ?_, ?_, ?_, ?_, ?_, ?_, ?_, ?_, ?_, ?_, ?_, ?_, ?_, ?_, ?_, ?_, ?_, ?_, ?_, ?_⟩ <;> intros <;> first | rfl | (simp only [ev, evAnd, evOr, evR, evD, evA, evO, evT, evTA, evTO, evC, evI, evS, evSs, M.ret])
end
/-! ### operations -/
theorem boE :
  (∀ i j, bo .Add (.int i) (.int j) = some (.dat (.int (i + j)))) ∧
  (∀ i j, bo .Sub (.int i) (.int j) = some (.dat (.int (i - j)))) ∧
  (∀ i j, bo .Mult (.int i) (.int j) = if mulOk i j then some (.dat (.int (i * j))) else none) ∧
  (∀ i j, bo .FloorDiv (.int i) (.int j) = if decide (0 < j) && decide (j.natAbs < 1073741824) then some (.dat (.int (i / j))) else none) ∧
  (∀ i j, bo .Mod (.int i) (.int j) = if decide (0 < j) then some (.dat (.int (i % j))) else none) ∧
  (∀ i j, bo .LShift (.int i) (.int j) = if decide (0 ≤ j) && decide (Builtin.Int.intBits i + j.natAbs ≤ 2 ^ 27) then some (.dat (.int (i * 2 ^ j.toNat))) else none) ∧
  (∀ i j, bo .RShift (.int i) (.int j) = if decide (0 ≤ j) then some (.dat (.int (i / 2 ^ j.toNat))) else none) ∧
  (∀ i j, bo .BitAnd (.int i) (.int j) = some (.dat (.int (Builtin.bitAnd i j)))) ∧
  (∀ i j, bo .BitOr (.int i) (.int j) = some (.dat (.int (Builtin.bitOr i j)))) ∧
  (∀ i j, bo .BitXor (.int i) (.int j) = some (.dat (.int (Builtin.bitXor i j)))) ∧
  (∀ i j, bo .Add (.str i) (.str j) = if sz (i.length + j.length) then some (.dat (.str (i ++ j))) else none) ∧
  (∀ i j, bo .Add (.lst i) (.lst j) = if sz (i.length + j.length) then some (.lst (i ++ j)) else none) ∧
  (∀ i j, bo .Add (.tup i) (.tup j) = if sz (i.length + j.length) then some (.dat (.tup (i ++ j))) else none) ∧
  (∀ i j, bo .Mult (.lst i) (.int j) = if decide (j.natAbs < 2 ^ 63) && sz (i.length * j.toNat) then some (.lst (List.replicate j.toNat i).flatten) else none) ∧
  (∀ i, uo .USub (.int i) = some (.dat (.int (-i)))) ∧
  (∀ i, uo .Invert (.int i) = some (.dat (.int (Builtin.bitNot i)))) := by
  refine ⟨?_, ?_, ?_, ?_, ?_, ?_, ?_, ?_, ?_, ?_, ?_, ?_, ?_, ?_, ?_, ?_⟩ <;> intros <;> rfl
theorem coE :
  (∀ i j, co .Lt (.int i) (.int j) = some (decide (i < j))) ∧
  (∀ i j, co .LtE (.int i) (.int j) = some (decide (i ≤ j))) ∧
  (∀ i j, co .Gt (.int i) (.int j) = some (decide (j < i))) ∧
  (∀ i j, co .GtE (.int i) (.int j) = some (decide (j ≤ i))) ∧
  (∀ i j, co .In i (.lst j) = inD i j) ∧
  (∀ i j, co .In i (.tup j) = inD i j) ∧
  (∀ i j, co .NotIn i (.lst j) = (inD i j).map (!·)) ∧
  (∀ i j, co .NotIn i (.tup j) = (inD i j).map (!·)) ∧
  (co .Is (.non) (.non) = some true) ∧
  (∀ i j, co .Is (.bl i) (.bl j) = some (decide (i = j))) ∧
  (co .IsNot (.non) (.non) = some false) ∧
  (∀ i j, co .IsNot (.bl i) (.bl j) = some (!decide (i = j))) ∧
  (∀ i, co .Is (.int i) (.non) = some false) ∧
  (∀ i, co .IsNot (.int i) (.non) = some true) ∧
  (∀ i, co .Is (.str i) (.non) = some false) ∧
  (∀ i, co .IsNot (.str i) (.non) = some true) ∧
  (∀ i, co .Is (.tup i) (.non) = some false) ∧
  (∀ i, co .IsNot (.tup i) (.non) = some true) ∧
  (∀ i, co .Is (.lst i) (.non) = some false) ∧
  (∀ i, co .IsNot (.lst i) (.non) = some true) ∧
  (∀ c i, co .Is (.ins c i) (.non) = some false) ∧
  (∀ c i, co .IsNot (.ins c i) (.non) = some true) ∧
  (∀ c i, co .Is (.exc c i) (.non) = some false) ∧
  (∀ c i, co .IsNot (.exc c i) (.non) = some true) ∧
  (∀ i j, co .In (.str i) (.str j) = some (!(Builtin.Str.occurrences j i 0 j.length 1).isEmpty)) ∧
  (∀ i j, co .NotIn (.str i) (.str j) = some (Builtin.Str.occurrences j i 0 j.length 1).isEmpty) ∧
  (∀ i j, co .Eq i j = eqD i j) ∧
  (∀ i j, co .NotEq i j = (eqD i j).map (!·)) := by
  refine ⟨?_, ?_, ?_, ?_, ?_, ?_, ?_, ?_, ?_, ?_, ?_, ?_, ?_, ?_, ?_, ?_, ?_, ?_, ?_, ?_, ?_, ?_, ?_, ?_, ?_, ?_, ?_, ?_⟩ <;> intros <;> first | rfl | (rename_i i j; cases i <;> cases j <;> rfl) | (rename_i i j; cases i <;> rfl)
theorem biE :
  (∀ ys, bi .len [.lst ys] = some (.dat (.int ys.length))) ∧
  (∀ ys, bi .len [.scr ys] = some (.dat (.int ys.length))) ∧
  (∀ ys, bi .len [.tup ys] = some (.dat (.int ys.length))) ∧
  (∀ ys, bi .len [.str ys] = if sz ys.length then some (.dat (.int ys.length)) else none) ∧
  (∀ ys, bi .str [.int ys] = if decide (ys.natAbs.log2 < 1920) then some (.dat (.str (toString ys))) else none) ∧
  (∀ ys, bi .int [.int ys] = some (.dat (.int ys))) ∧
  (∀ ys, bi .int [.bl ys] = some (.dat (.int (if ys then 1 else 0)))) ∧
  (∀ ys, bi .list [.lst ys] = some (.lst ys)) ∧
  (∀ ys, bi .list [.tup ys] = some (.lst ys)) ∧
  (∀ ys, bi .tuple [.lst ys] = some (.dat (.tup ys))) ∧
  (∀ ys, bi .tuple [.tup ys] = some (.dat (.tup ys))) ∧
  (∀ ys, bi .sum [.lst ys] = (intsOf ys).map fun ns => .dat (.int ns.sum)) ∧
  (∀ ys, bi .all_ [.lst ys] = (blsOf ys).map fun bs => .dat (.bl (bs.all id))) ∧
  (∀ ys, bi .any_ [.lst ys] = (blsOf ys).map fun bs => .dat (.bl (bs.any id))) ∧
  (∀ ys, bi .bool [.int ys] = some (.dat (.bl (ys != 0)))) ∧
  (∀ ys, bi .bool [.bl ys] = some (.dat (.bl ys))) ∧
  (∀ ys, bi .abs [.int ys] = some (.dat (.int (if ys < 0 then -ys else ys)))) ∧
  (∀ i j, bi .max2 [.int i, .int j] = some (.dat (.int (if j > i then j else i)))) ∧
  (∀ i j, bi .min2 [.int i, .int j] = some (.dat (.int (if j < i then j else i)))) := by
  refine ⟨?_, ?_, ?_, ?_, ?_, ?_, ?_, ?_, ?_, ?_, ?_, ?_, ?_, ?_, ?_, ?_, ?_, ?_, ?_⟩ <;> intros <;> rfl
theorem trE :
  (truD .non = some false) ∧
  (∀ i, truD (.bl i) = some i) ∧
  (∀ i, truD (.int i) = some (i != 0)) ∧
  (∀ i, truD (.lst i) = some (!i.isEmpty)) ∧
  (∀ i, truD (.tup i) = some (!i.isEmpty)) ∧
  (∀ i, asBl (.dat (.bl i)) = some i) ∧
  (∀ i, asInt (.dat (.int i)) = some i) ∧
  (∀ d, FV.frz (.dat d) = d) ∧
  (∀ d, FV.frz (.lst d) = .lst d) ∧
  (∀ d, isLst (.lst d) = true) ∧
  (∀ t, isiD .non t = some (baseAns "NoneType" t)) ∧
  (∀ i t, isiD (.bl i) t = some (baseAns "bool" t)) ∧
  (∀ i t, isiD (.int i) t = some (baseAns "int" t)) ∧
  (∀ i t, isiD (.str i) t = some (baseAns "str" t)) ∧
  (∀ i t, isiD (.tup i) t = some (baseAns "tuple" t)) ∧
  (∀ i t, isiD (.lst i) t = some (baseAns "list" t)) ∧
  (∀ i t, isiD (.tpk i) t = some (baseAns "tuple" t)) ∧
  (∀ i t, isiD (.scr i) t = some (baseAns "list" t)) ∧
  (∀ c i t, isiD (.ins c i) t = some (insAns c t)) ∧
  (∀ c t, isiD (.exc c []) t = some (excAns c t)) ∧
  (∀ ds i, ixD (.lst ds) (.int i) = L2.atI ds i) ∧
  (∀ ds i, ixD (.tup ds) (.int i) = L2.atI ds i) ∧
  (∀ ds i, ixD (.scr ds) (.int i) = L2.atI ds i) ∧
  (∀ ds, itemsOf (.lst ds) = some ds) ∧
  (∀ ds, itemsOf (.scr ds) = some ds) ∧
  (∀ ds, itemsOf (.tup ds) = some ds) ∧
  (∀ ds, itemsOf (.tpk ds) = some ds) := by
  refine ⟨?_, ?_, ?_, ?_, ?_, ?_, ?_, ?_, ?_, ?_, ?_, ?_, ?_, ?_, ?_, ?_, ?_, ?_, ?_, ?_, ?_, ?_, ?_, ?_, ?_, ?_, ?_⟩ <;> intros <;> first | rfl
/-! ### a def's run -/
def fin (asg : List Nat) (es : List SV) : Out Fl → FO
  | .ok (.rt x) ρ => (match exitA asg ρ 0 es with
    | some ys => .ok x ys
    | none => .stuck)
  | .ok .nx ρ => (match exitA asg ρ 0 es with
    | some ys => .ok (.dat .non) ys
    | none => .stuck)
  | .exc e ρ => (match exitA asg ρ 0 es with
    | some ys => .exc e ys
    | none => .stuck)
  | _ => .stuck
theorem fn_run {Φ : Nat → Fn} {c : CF} {xs : List SV} (es : List SV) (ρ0 : En) (h1 : xs.length = c.np) (h2 : entryOk c.asg 0 xs = true) (h3 : entry c.asg 0 xs = es) (h4 : es.map some ++ List.replicate (c.n - c.np) none = ρ0) :
    fnOf Φ c xs = fin c.asg es (evSs Φ c.np c.body ρ0) := by
  unfold fnOf
  rw [if_pos ⟨h1, h2⟩]
  subst h3 h4
  unfold fin
  rfl
theorem phi_run {code : Nat → Option CF} {f n : Nat} {c : CF} {xs : List SV} (es : List SV) (ρ0 : En) (hc : code f = some c) (h1 : xs.length = c.np) (h2 : entryOk c.asg 0 xs = true) (h3 : entry c.asg 0 xs = es) (h4 : es.map some ++ List.replicate (c.n - c.np) none = ρ0) :
    phi code (n + 1) f xs = fin c.asg es (evSs (phi code n) c.np c.body ρ0) := by
  show (match code f with | some c => fnOf (phi code n) c | none => fun _ => .stuck) xs = _
  rw [hc]
  exact fn_run es ρ0 h1 h2 h3 h4
section
variable (asg : List Nat) (es : List SV) (ρ : En)
theorem finE : (∀ x, fin asg es (.ok (.rt x) ρ) = (match exitA asg ρ 0 es with
    | some ys => .ok x ys
    | none => .stuck)) ∧ (fin asg es (.ok .nx ρ) = (match exitA asg ρ 0 es with
    | some ys => .ok (.dat .non) ys
    | none => .stuck)) ∧ (∀ e, fin asg es (.exc e ρ) = (match exitA asg ρ 0 es with
    | some ys => .exc e ys
    | none => .stuck)) := ⟨fun _ => rfl, rfl, fun _ => rfl⟩
end
theorem exitE : (∀ asg ρ i, exitA asg ρ i [] = some []) ∧ (∀ asg ρ i d xs, exitA asg ρ i (.fv (.dat d) :: xs) = (exitA asg ρ (i + 1) xs).map (SV.dat d :: ·)) ∧
    (∀ ρ i d xs, exitA [] ρ i (.fv (.lst d) :: xs) = (match ρ[i]? with | some (some y) => (exitA [] ρ (i + 1) xs).map (y :: ·) | _ => none)) ∧
    (∀ ρ i c d xs, exitA [] ρ i (.ins c d :: xs) = (match ρ[i]? with | some (some y) => (exitA [] ρ (i + 1) xs).map (y :: ·) | _ => none)) := by
  refine ⟨fun _ _ _ => rfl, fun asg ρ i d xs => ?_, fun ρ i d xs => ?_, fun ρ i c d xs => ?_⟩
  · show (match (if (isOwn (.fv (.dat d)) && !(asg.contains i)) = true then (match ρ[i]? with
      | some (some y) => some y
      | _ => none) else some (SV.dat d)), exitA asg ρ (i + 1) xs with
      | some y, some ys => some (y :: ys)
      | _, _ => none) = _
    simp only [isOwn, Bool.false_and, Bool.false_eq_true, if_false]
    cases exitA asg ρ (i + 1) xs <;> rfl
  · show (match (match ρ[i]? with
      | some (some y) => some y
      | _ => none), exitA [] ρ (i + 1) xs with
      | some y, some ys => some (y :: ys)
      | _, _ => none) = _
    cases exitA [] ρ (i + 1) xs <;> cases ρ[i]? with
      | none => rfl
      | some o => cases o <;> rfl
  · show (match (match ρ[i]? with
      | some (some y) => some y
      | _ => none), exitA [] ρ (i + 1) xs with
      | some y, some ys => some (y :: ys)
      | _, _ => none) = _
    cases exitA [] ρ (i + 1) xs <;> cases ρ[i]? with
      | none => rfl
      | some o => cases o <;> rfl
/-! ### loops -/
theorem whl_true {test : M Bool} {body : M Fl} {N : Nat} {ρ ρ1 ρ2 : En} (h1 : test ρ = .ok true ρ1) (h2 : body ρ1 = .ok .nx ρ2) : whlGo test body (N + 1) ρ = whlGo test body N ρ2 := by
  show M.bnd test _ ρ = _
  rw [bnd_ap, h1]
  dsimp only
  rw [if_pos rfl, bnd_ap, h2]
theorem whl_false {test : M Bool} {body : M Fl} {N : Nat} {ρ ρ1 : En} (h1 : test ρ = .ok false ρ1) : whlGo test body (N + 1) ρ = .ok .nx ρ1 := by
  show M.bnd test _ ρ = _
  rw [bnd_ap, h1]
  dsimp only
  rw [if_neg (by decide)]
  rfl
theorem atE {α : Type} (xs : List α) : L2.atI xs 0 = xs[0]? ∧ L2.atI xs 1 = xs[1]? ∧ L2.atI xs 2 = xs[2]? ∧ L2.atI xs 3 = xs[3]? ∧ L2.atI xs 4 = xs[4]? ∧ L2.atI xs 5 = xs[5]? ∧ L2.atI xs 6 = xs[6]? := by
  have : ∀ n : Nat, L2.atI xs (n : Int) = xs[n]? := fun n => by
    unfold L2.atI L2.ixN
    rw [if_pos (Int.natCast_nonneg n)]
    by_cases h : (n : Int) < xs.length
    · rw [if_pos h]
      rfl
    · rw [if_neg h, List.getElem?_eq_none (by omega)]
      rfl
  exact ⟨this 0, this 1, this 2, this 3, this 4, this 5, this 6⟩
theorem atI_nat {α : Type} (xs : List α) (n : Nat) : L2.atI xs (n : Int) = xs[n]? := by
  unfold L2.atI L2.ixN
  rw [if_pos (Int.natCast_nonneg n)]
  by_cases h : (n : Int) < xs.length
  · rw [if_pos h]
    rfl
  · rw [if_neg h, List.getElem?_eq_none (by omega)]
    rfl
/-! ### comparing data -/
theorem eqD_int (i j : Int) : eqD (.int i) (.int j) = some (decide (i = j)) := by
  unfold eqD
  simp only [D.py]
  rw [if_pos (by rfl)]
  congr 1
/-! ### types -/
theorem baE :
  (baseAns "NoneType" (.bt "int") = false) ∧
  (baseAns "NoneType" (.bt "bool") = false) ∧
  (baseAns "NoneType" (.bt "str") = false) ∧
  (baseAns "NoneType" (.bt "tuple") = false) ∧
  (baseAns "NoneType" (.bt "list") = false) ∧
  (baseAns "NoneType" (.bt "ValueError") = false) ∧
  (∀ c s, baseAns "NoneType" (.cls c s) = false) ∧
  (∀ c s, baseAns "NoneType" (.exc c s) = false) ∧
  (baseAns "bool" (.bt "int") = true) ∧
  (baseAns "bool" (.bt "bool") = true) ∧
  (baseAns "bool" (.bt "str") = false) ∧
  (baseAns "bool" (.bt "tuple") = false) ∧
  (baseAns "bool" (.bt "list") = false) ∧
  (baseAns "bool" (.bt "ValueError") = false) ∧
  (∀ c s, baseAns "bool" (.cls c s) = false) ∧
  (∀ c s, baseAns "bool" (.exc c s) = false) ∧
  (baseAns "int" (.bt "int") = true) ∧
  (baseAns "int" (.bt "bool") = false) ∧
  (baseAns "int" (.bt "str") = false) ∧
  (baseAns "int" (.bt "tuple") = false) ∧
  (baseAns "int" (.bt "list") = false) ∧
  (baseAns "int" (.bt "ValueError") = false) ∧
  (∀ c s, baseAns "int" (.cls c s) = false) ∧
  (∀ c s, baseAns "int" (.exc c s) = false) ∧
  (baseAns "str" (.bt "int") = false) ∧
  (baseAns "str" (.bt "bool") = false) ∧
  (baseAns "str" (.bt "str") = true) ∧
  (baseAns "str" (.bt "tuple") = false) ∧
  (baseAns "str" (.bt "list") = false) ∧
  (baseAns "str" (.bt "ValueError") = false) ∧
  (∀ c s, baseAns "str" (.cls c s) = false) ∧
  (∀ c s, baseAns "str" (.exc c s) = false) ∧
  (baseAns "tuple" (.bt "int") = false) ∧
  (baseAns "tuple" (.bt "bool") = false) ∧
  (baseAns "tuple" (.bt "str") = false) ∧
  (baseAns "tuple" (.bt "tuple") = true) ∧
  (baseAns "tuple" (.bt "list") = false) ∧
  (baseAns "tuple" (.bt "ValueError") = false) ∧
  (∀ c s, baseAns "tuple" (.cls c s) = false) ∧
  (∀ c s, baseAns "tuple" (.exc c s) = false) ∧
  (baseAns "list" (.bt "int") = false) ∧
  (baseAns "list" (.bt "bool") = false) ∧
  (baseAns "list" (.bt "str") = false) ∧
  (baseAns "list" (.bt "tuple") = false) ∧
  (baseAns "list" (.bt "list") = true) ∧
  (baseAns "list" (.bt "ValueError") = false) ∧
  (∀ c s, baseAns "list" (.cls c s) = false) ∧
  (∀ c s, baseAns "list" (.exc c s) = false) ∧
  (∀ c k s, insAns c (.cls k s) = s.contains c) ∧
  (∀ c k s, insAns c (.exc k s) = false) ∧
  (∀ c n, insAns c (.bt n) = false) ∧
  (∀ c k s, excAns c (.exc k s) = s.contains c) ∧
  (∀ c k s, excAns c (.cls k s) = false) := by
  refine ⟨?_, ?_, ?_, ?_, ?_, ?_, ?_, ?_, ?_, ?_, ?_, ?_, ?_, ?_, ?_, ?_, ?_, ?_, ?_, ?_, ?_, ?_, ?_, ?_, ?_, ?_, ?_, ?_, ?_, ?_, ?_, ?_, ?_, ?_, ?_, ?_, ?_, ?_, ?_, ?_, ?_, ?_, ?_, ?_, ?_, ?_, ?_, ?_, ?_, ?_, ?_, ?_, ?_⟩ <;> first | decide | (intros; rfl)
/-! ### methods -/
theorem bmE : (∀ ys x, bm .indexK (.tup ys) [x] = (idxD x ys).map fun j : Nat => .dat (.int (j : Int))) ∧ (∀ ys x, bm .index (.lst ys) [x] = (idxD x ys).map fun j : Nat => .dat (.int (j : Int))) ∧
    (∀ ys x, bm .countK (.tpk ys) [x] = (cntD x ys).map fun j : Nat => .dat (.int (j : Int))) ∧ (∀ ys x, bm .count (.lst ys) [x] = (cntD x ys).map fun j : Nat => .dat (.int (j : Int))) ∧
    (∀ a ys, bm .join (.str a) [.lst ys] = match strsOf ys with | some zs => if joinSz a zs then some (.dat (.str (Txt.join a zs))) else none | none => none) ∧
    (∀ i, bm .bitLength (.int i) [] = some (.dat (.int (Builtin.Int.intBits i : Nat)))) ∧
    (∀ x, bmTy .join (.str x) = true) ∧ (∀ x, bmTy .split (.str x) = true) ∧ (∀ x, bmTy .partition (.str x) = true) ∧ (∀ x, bmTy .upper (.str x) = true) ∧ (∀ x, bmTy .index (.lst x) = true) ∧ (∀ x, bmTy .indexK (.tup x) = true) ∧
    (∀ x, bmTy .count (.lst x) = true) ∧ (∀ x, bmTy .countK (.tpk x) = true) ∧ (∀ x, bmTy .bitLength (.int x) = true) := by
  refine ⟨fun ys x => ?_, fun ys x => ?_, fun ys x => ?_, fun ys x => ?_, ?_, ?_, ?_, ?_, ?_, ?_, ?_, ?_, ?_, ?_, ?_⟩
  · have e : bm .indexK (.tup ys) [x] = ((idxD x ys).bind fun a => some (a : Int)).map fun j => .dat (.int j) := rfl
    rw [e]; cases idxD x ys <;> rfl
  · have e : bm .index (.lst ys) [x] = ((idxD x ys).bind fun a => some (a : Int)).map fun j => .dat (.int j) := rfl
    rw [e]; cases idxD x ys <;> rfl
  · have e : bm .countK (.tpk ys) [x] = ((cntD x ys).bind fun a => some (a : Int)).map fun j => .dat (.int j) := rfl
    rw [e]; cases cntD x ys <;> rfl
  · have e : bm .count (.lst ys) [x] = ((cntD x ys).bind fun a => some (a : Int)).map fun j => .dat (.int j) := rfl
    rw [e]; cases cntD x ys <;> rfl
  all_goals (intros; rfl)
theorem mmE : (∀ ds x, mmF .append ds [x] = if sz (ds.length + 1) then some (.non, ds ++ [x]) else none) ∧ (∀ ds, mmF .clear ds [] = some (.non, [])) ∧ (∀ ds, mmF .reverse ds [] = some (.non, ds.reverse)) ∧
    (∀ ds es, mmF .extend ds [.lst es] = if sz (ds.length + es.length) then some (.non, ds ++ es) else none) := by
  refine ⟨?_, ?_, ?_, ?_⟩ <;> intros <;> rfl
/-! ### sizes -/
theorem szE :
  sz 0 = true ∧ sz 1 = true ∧ sz 2 = true ∧ sz 3 = true ∧ sz 4 = true ∧ sz 5 = true ∧ sz 6 = true ∧ sz 7 = true ∧ sz 8 = true ∧ sz 9 = true ∧ sz 10 = true ∧ sz 11 = true ∧ sz 12 = true ∧ sz 13 = true ∧ sz 14 = true ∧ sz 15 = true ∧ sz 16 = true ∧ sz 17 = true ∧ sz 18 = true ∧ sz 19 = true ∧ sz 20 = true ∧ sz 21 = true ∧ sz 22 = true ∧ sz 23 = true ∧ sz 24 = true ∧ sz 25 = true ∧ sz 26 = true ∧ sz 27 = true ∧ sz 28 = true ∧ sz 29 = true ∧ sz 30 = true ∧ sz 31 = true ∧ sz 32 = true := by
  refine ⟨?_, ?_, ?_, ?_, ?_, ?_, ?_, ?_, ?_, ?_, ?_, ?_, ?_, ?_, ?_, ?_, ?_, ?_, ?_, ?_, ?_, ?_, ?_, ?_, ?_, ?_, ?_, ?_, ?_, ?_, ?_, ?_, ?_⟩ <;> decide
end Dv
end
section
set_option Elab.async false
set_option maxRecDepth 100000
set_option linter.unusedVariables false
/-! Comparing plain data -/
namespace Dv
open PySem
mutual
def pl : D → Bool
  | .non | .bl _ | .int _ => true
  | .str x => PyData.strOk x
  | .tup ds | .lst ds => pls ds
  | _ => false
def pls : List D → Bool
  | [] => true
  | d :: r => pl d && pls r
end
mutual
def dp : D → Nat
  | .tup ds | .lst ds => dps ds + 1
  | _ => 0
def dps : List D → Nat
  | [] => 0
  | d :: r => max (dp d) (dps r)
end
mutual
def deq : D → D → Bool
  | .non, .non => true
  | .bl a, .bl b => a == b
  | .bl a, .int j => (if a then 1 else 0) == j
  | .int i, .bl b => i == (if b then 1 else 0)
  | .int i, .int j => i == j
  | .str x, .str y => x == y
  | .tup xs, .tup ys => deqs xs ys
  | .lst xs, .lst ys => deqs xs ys
  | _, _ => false
def deqs : List D → List D → Bool
  | [], [] => true
  | x :: xs, y :: ys => deq x y && deqs xs ys
  | _, _ => false
end
mutual
theorem py_ok : ∀ {d : D}, pl d = true → ∃ p, d.py = some p ∧ p.canLay0 = true ∧ p.depth = dp d
  | .non, _ => ⟨.none, rfl, rfl, rfl⟩
  | .bl b, _ => ⟨.bool b, rfl, rfl, rfl⟩
  | .int b, _ => ⟨.int b, rfl, rfl, rfl⟩
  | .str x, h => ⟨.str x, rfl, by simpa [PyData.canLay0, pl] using h, rfl⟩
  | .tup ds, h => by
    obtain ⟨ps, e, k, l⟩ := pys_ok (ds := ds) (by simpa [pl] using h)
    exact ⟨.tuple ps, by simp [D.py, e], by simpa [PyData.canLay0] using k, by simp [PyData.depth, dp, l]⟩
  | .lst ds, h => by
    obtain ⟨ps, e, k, l⟩ := pys_ok (ds := ds) (by simpa [pl] using h)
    exact ⟨.list ps, by simp [D.py, e], by simpa [PyData.canLay0] using k, by simp [PyData.depth, dp, l]⟩
theorem pys_ok : ∀ {ds : List D}, pls ds = true → ∃ ps, pys ds = some ps ∧ PyData.canLayAll0 ps = true ∧ PyData.depthAll ps = dps ds
  | [], _ => ⟨[], rfl, rfl, rfl⟩
  | d :: r, h => by
    have h : (pl d && pls r) = true := by simpa [pls] using h
    rw [Bool.and_eq_true] at h
    obtain ⟨p, e, k, l⟩ := py_ok h.1
    obtain ⟨ps, e2, k2, l2⟩ := pys_ok h.2
    exact ⟨p :: ps, by simp [pys, e, e2], by simp [PyData.canLayAll0, k, k2], by simp [PyData.depthAll, dps, l, l2]⟩
end
mutual
theorem deq_ok : ∀ {d e : D} {p q : PyData}, d.py = some p → e.py = some q → PyData.eqv p q = deq d e
  | d, e, p, q, h1, h2 => by
    cases d with
    | tup ds =>
      have h1 : (pys ds).map PyData.tuple = some p := h1
      cases e1 : pys ds with
      | none => rw [e1] at h1; cases h1
      | some ps =>
        rw [e1] at h1
        cases h1
        cases e with
        | tup es =>
          have h2 : (pys es).map PyData.tuple = some q := h2
          cases e2 : pys es with
          | none => rw [e2] at h2; cases h2
          | some qs =>
            rw [e2] at h2
            cases h2
            simp only [PyData.eqv, deq]
            exact deqs_ok e1 e2
        | lst es =>
          have h2 : (pys es).map PyData.list = some q := h2
          cases e2 : pys es with
          | none => rw [e2] at h2; cases h2
          | some qs => rw [e2] at h2; cases h2; rfl
        | non | bl _ | int _ | str _ => cases h2; rfl
        | _ => cases h2
    | lst ds =>
      have h1 : (pys ds).map PyData.list = some p := h1
      cases e1 : pys ds with
      | none => rw [e1] at h1; cases h1
      | some ps =>
        rw [e1] at h1
        cases h1
        cases e with
        | lst es =>
          have h2 : (pys es).map PyData.list = some q := h2
          cases e2 : pys es with
          | none => rw [e2] at h2; cases h2
          | some qs =>
            rw [e2] at h2
            cases h2
            simp only [PyData.eqv, deq]
            exact deqs_ok e1 e2
        | tup es =>
          have h2 : (pys es).map PyData.tuple = some q := h2
          cases e2 : pys es with
          | none => rw [e2] at h2; cases h2
          | some qs => rw [e2] at h2; cases h2; rfl
        | non | bl _ | int _ | str _ => cases h2; rfl
        | _ => cases h2
    | non | bl _ | int _ | str _ =>
      cases h1
      cases e with
      | tup es =>
          have h2 : (pys es).map PyData.tuple = some q := h2
          cases e2 : pys es with
          | none => rw [e2] at h2; cases h2
          | some qs => rw [e2] at h2; cases h2; rfl
      | lst es =>
          have h2 : (pys es).map PyData.list = some q := h2
          cases e2 : pys es with
          | none => rw [e2] at h2; cases h2
          | some qs => rw [e2] at h2; cases h2; rfl
      | non | bl _ | int _ | str _ => cases h2; first | rfl | simp only [PyData.eqv, deq]
      | _ => cases h2
    | _ => cases h1
theorem deqs_ok : ∀ {ds es : List D} {ps qs : List PyData}, pys ds = some ps → pys es = some qs → PyData.eqvAll ps qs = deqs ds es
  | [], [], ps, qs, h1, h2 => by
    cases (show some [] = some ps from h1)
    cases (show some [] = some qs from h2)
    rfl
  | [], e :: es, ps, qs, h1, h2 => by
    cases (show some [] = some ps from h1)
    unfold pys at h2
    split at h2 <;> cases h2
    rfl
  | d :: ds, [], ps, qs, h1, h2 => by
    cases (show some [] = some qs from h2)
    unfold pys at h1
    split at h1 <;> cases h1
    rfl
  | d :: ds, e :: es, ps, qs, h1, h2 => by
    unfold pys at h1 h2
    split at h1 <;> cases h1
    rename_i a1 a2
    split at h2 <;> cases h2
    rename_i b1 b2
    simp only [PyData.eqvAll, deqs]
    rw [deq_ok a1 b1, deqs_ok a2 b2]
end
theorem eqD_ok {d e : D} (h1 : pl d = true) (h2 : pl e = true) (h3 : dp d ≤ 64) (h4 : dp e ≤ 64) : eqD d e = some (deq d e) := by
  obtain ⟨p, e1, k1, l1⟩ := py_ok h1
  obtain ⟨q, e2, k2, l2⟩ := py_ok h2
  unfold eqD
  rw [e1, e2]
  dsimp only
  rw [if_pos (by simp [SeqAt.shaped, k1, k2, l1, l2, h3, h4]), deq_ok e1 e2]
theorem any_deq {x : D} {a : PyData} (hx : x.py = some a) : ∀ {ys : List D} {bs : List PyData}, pys ys = some bs → (bs.any fun z => PyData.eqv z a) = ys.any fun z => deq z x
  | [], bs, h => by cases (show some [] = some bs from h); rfl
  | y :: ys, bs, h => by
    unfold pys at h
    split at h <;> cases h
    rename_i b1 b2
    rw [List.any_cons, List.any_cons, deq_ok b1 hx, any_deq hx b2]
theorem inD_ok {x : D} {ys : List D} (h1 : pl x = true) (h2 : pls ys = true) (h3 : dp x ≤ 64) (h4 : dps ys < 64) : inD x ys = some (ys.any fun z => deq z x) := by
  obtain ⟨p, e1, k1, l1⟩ := py_ok h1
  obtain ⟨q, e2, k2, l2⟩ := pys_ok h2
  unfold inD
  rw [e1, e2]
  dsimp only
  rw [if_pos (by simp [SeqAt.shaped, PyData.canLay0, PyData.depth, k1, k2, l1, l2, h3]; omega), any_deq e1 e2]
theorem pyIn_ok {x : D} {ys : List D} (h1 : pl x = true) (h2 : pls ys = true) (h3 : dp x ≤ 64) (h4 : dps ys < 64) : ∃ a bs, x.py = some a ∧ pys ys = some bs ∧ pyIn x ys = some (a, bs) := by
  obtain ⟨p, e1, k1, l1⟩ := py_ok h1
  obtain ⟨q, e2, k2, l2⟩ := pys_ok h2
  refine ⟨p, q, e1, e2, ?_⟩
  unfold pyIn
  rw [e1, e2]
  dsimp only
  rw [if_pos (by simp [SeqAt.shaped, PyData.canLay0, PyData.depth, k1, k2, l1, l2, h3]; omega)]
theorem find_deq {x : D} {a : PyData} (hx : x.py = some a) : ∀ {ys : List D} {bs : List PyData}, pys ys = some bs → (bs.findIdx? fun z => PyData.eqv z a) = ys.findIdx? fun z => deq z x
  | [], bs, h => by cases (show some [] = some bs from h); rfl
  | y :: ys, bs, h => by
    unfold pys at h
    split at h <;> cases h
    rename_i b1 b2
    rw [List.findIdx?_cons, List.findIdx?_cons, deq_ok b1 hx, find_deq hx b2]
theorem count_deq {x : D} {a : PyData} (hx : x.py = some a) : ∀ {ys : List D} {bs : List PyData}, pys ys = some bs → (bs.countP fun z => PyData.eqv z a) = ys.countP fun z => deq z x
  | [], bs, h => by cases (show some [] = some bs from h); rfl
  | y :: ys, bs, h => by
    unfold pys at h
    split at h <;> cases h
    rename_i b1 b2
    rw [List.countP_cons, List.countP_cons, deq_ok b1 hx, count_deq hx b2]
theorem idxD_ok {x : D} {ys : List D} (h1 : pl x = true) (h2 : pls ys = true) (h3 : dp x ≤ 64) (h4 : dps ys < 64) : idxD x ys = ys.findIdx? fun z => deq z x := by
  obtain ⟨a, bs, e1, e2, e⟩ := pyIn_ok h1 h2 h3 h4
  unfold idxD
  rw [e]
  exact find_deq e1 e2
theorem cntD_ok {x : D} {ys : List D} (h1 : pl x = true) (h2 : pls ys = true) (h3 : dp x ≤ 64) (h4 : dps ys < 64) : cntD x ys = some (ys.countP fun z => deq z x) := by
  obtain ⟨a, bs, e1, e2, e⟩ := pyIn_ok h1 h2 h3 h4
  unfold cntD
  rw [e]
  show some (bs.countP fun z => PyData.eqv z a) = _
  rw [count_deq e1 e2]
end Dv
end
section
set_option Elab.async false
set_option maxRecDepth 100000
set_option linter.unusedVariables false
/-! Loops and comprehensions -/
namespace Dv
open PySem
/-- the same but for the names of a comprehension -/
def Ag (own : List Nat) (ρ0 ρ : En) : Prop := wipeE ρ own = wipeE ρ0 own ∧ restore ρ0 own ρ = ρ0
theorem lcGo_run {own : List Nat} {body : D → M (Option D)} {ρ0 : En} (f : D → Option D) : ∀ (items acc : List D) (ρ : En), Ag own ρ0 ρ → (∀ x ∈ items, ∃ ρ', body x (wipeE ρ0 own) = .ok (f x) ρ' ∧ Ag own ρ0 ρ') → acc.length + items.length ≤ 16000000 →
    ∃ ρ', lcGo own body items acc ρ = .ok (acc ++ items.filterMap f) ρ' ∧ Ag own ρ0 ρ'
  | [], acc, ρ, a, h, hl => ⟨ρ, by simp [lcGo, M.ret], a⟩
  | x :: xs, acc, ρ, a, h, hl => by
    obtain ⟨ρ1, e1, a1⟩ := h x List.mem_cons_self
    have hx : ∀ y ∈ xs, ∃ ρ', body y (wipeE ρ0 own) = .ok (f y) ρ' ∧ Ag own ρ0 ρ' := fun y hy => h y (List.mem_cons_of_mem _ hy)
    rw [List.length_cons] at hl
    have e0 : lcGo own body (x :: xs) acc ρ = (body x).bnd (fun o => match o with
      | some d => if sz (acc.length + 1) then lcGo own body xs (acc ++ [d]) else fun _ => .stuck
      | none => lcGo own body xs acc) (wipeE ρ own) := rfl
    rw [e0, a.1, bnd_ap, e1]
    cases e : f x with
    | none =>
      dsimp only
      rw [List.filterMap_cons, e]
      exact lcGo_run f xs acc ρ1 a1 hx (by omega)
    | some d =>
      dsimp only
      rw [if_pos (by simp [sz]; omega), List.filterMap_cons, e]
      obtain ⟨ρ', e2, a2⟩ := lcGo_run f xs (acc ++ [d]) ρ1 a1 hx (by simp; omega)
      exact ⟨ρ', by rw [e2]; simp, a2⟩
section
variable {Φ : Nat → Fn} {own : List Nat} {g : Tg} {it : CI} {c : CTs} {e : CE} {ρ ρ1 : En} {items : List D}
def lcBody (Φ : Nat → Fn) (g : Tg) (c : CTs) (e : CE) (d : D) : M (Option D) := (asgT g d).bnd fun _ => (evC Φ c).bnd fun k => if k then ((ev Φ e).bnd takeM).bnd fun x => M.ret (some x) else M.ret none
theorem lc_core (f : D → Option D) (hf : frozenAt ρ own = true) (ha : Ag own ρ ρ) (h : ∀ x ∈ items, ∃ ρ', lcBody Φ g c e x (wipeE ρ own) = .ok (f x) ρ' ∧ Ag own ρ ρ') (hl : items.length ≤ 16000000) :
    (if frozenAt ρ own then
      (match (lcGo own (lcBody Φ g c e) items []) ρ with
      | .ok acc ρ' => Out.ok (R.val (.lst acc)) (restore ρ own ρ')
      | _ => .stuck) else .stuck) = .ok (.val (.lst (items.filterMap f))) ρ := by
  rw [if_pos hf]
  obtain ⟨ρ', e1, a1⟩ := lcGo_run f items [] ρ ha h (by simpa using hl)
  rw [e1]
  dsimp only
  rw [a1.2, List.nil_append]
theorem lc_unf : ev Φ (.lc own g it c e) = withIt it (evI Φ it) fun items => fun ρ => if frozenAt ρ own then
      (match (lcGo own (lcBody Φ g c e) items []) ρ with
      | .ok acc ρ' => .ok (.val (.lst acc)) (restore ρ own ρ')
      | _ => .stuck) else .stuck := by
  simp only [ev]
  rfl
/-- [e for g in it if c], it a value -/
theorem lc_it (f : D → Option D) (hI : evI Φ it ρ = .ok items ρ1) (hn : lendOf it = none) (hf : frozenAt ρ1 own = true) (ha : Ag own ρ1 ρ1) (hl : items.length ≤ 16000000) (h : ∀ x ∈ items, ∃ ρ', lcBody Φ g c e x (wipeE ρ1 own) = .ok (f x) ρ' ∧ Ag own ρ1 ρ') :
    ev Φ (.lc own g it c e) ρ = .ok (.val (.lst (items.filterMap f))) ρ1 := by
  rw [lc_unf]
  unfold withIt
  rw [hn]
  dsimp only
  rw [bnd_ap, hI]
  exact lc_core f hf ha h hl
/-- .. it a name that stands for a value -/
theorem lc_dat (f : D → Option D) {i : Nat} {d : D} (hi : ρ[i]? = some (some (.fv (.dat d)))) (hd : itemsOf d = some items) (hf : frozenAt ρ own = true) (ha : Ag own ρ ρ) (hl : items.length ≤ 16000000) (h : ∀ x ∈ items, ∃ ρ', lcBody Φ g c e x (wipeE ρ own) = .ok (f x) ρ' ∧ Ag own ρ ρ') :
    ev Φ (.lc own g (.slot i) c e) ρ = .ok (.val (.lst (items.filterMap f))) ρ := by
  rw [lc_unf]
  unfold withIt lendOf
  dsimp only
  unfold lendM
  rw [hi]
  dsimp only
  rw [hd]
  exact lc_core f hf ha h hl
/-- .. it a name that owns a list -/
theorem lc_own (f : D → Option D) {i : Nat} (hi : ρ[i]? = some (some (.fv (.lst items)))) (hr : (ρ.set i none).set i (some (.lst items)) = ρ) (hf : frozenAt (ρ.set i none) own = true) (ha : Ag own (ρ.set i none) (ρ.set i none)) (hl : items.length ≤ 16000000) (h : ∀ x ∈ items, ∃ ρ', lcBody Φ g c e x (wipeE (ρ.set i none) own) = .ok (f x) ρ' ∧ Ag own (ρ.set i none) ρ') :
    ev Φ (.lc own g (.slot i) c e) ρ = .ok (.val (.lst (items.filterMap f))) ρ := by
  rw [lc_unf]
  unfold withIt lendOf
  dsimp only
  unfold lendM
  rw [hi]
  dsimp only
  have := lc_core (Φ := Φ) (g := g) (c := c) (e := e) (ρ := ρ.set i none) (own := own) f hf ha h hl
  rw [this]
  dsimp only
  rw [hr]
theorem fm_map {α : Type} (f : D → α) : ∀ l : List D, l.filterMap (fun x => some (f x)) = l.map f
  | [] => rfl
  | x :: r => by rw [List.filterMap_cons, List.map_cons, fm_map f r]
theorem lcRun (d : D) : lcBody Φ g c e d ρ = M.bnd (asgT g d) (fun _ => (evC Φ c).bnd fun k => if k then ((ev Φ e).bnd takeM).bnd fun x => M.ret (some x) else M.ret none) ρ := rfl
end
/-! ### for -/
section
variable {g : Tg} {body : M Fl}
/-- a loop that ends by itself -/
theorem for_inv (I : List D → En → Prop) : ∀ (items : List D) (ρ : En), I items ρ → (∀ x xs ρ, I (x :: xs) ρ → ∃ ρ1 ρ2 f, asgT g x ρ = .ok () ρ1 ∧ body ρ1 = .ok f ρ2 ∧ (f = .nx ∨ f = .ct) ∧ I xs ρ2) → ∃ ρ', forGo g body items ρ = .ok .nx ρ' ∧ I [] ρ'
  | [], ρ, h, _ => ⟨ρ, rfl, h⟩
  | x :: xs, ρ, h, hs => by
    obtain ⟨ρ1, ρ2, f, e1, e2, hf, h2⟩ := hs x xs ρ h
    obtain ⟨ρ', e3, h3⟩ := for_inv I xs ρ2 h2 hs
    refine ⟨ρ', ?_, h3⟩
    show M.bnd (asgT g x) _ ρ = _
    rw [bnd_ap, e1]
    dsimp only
    rw [bnd_ap, e2]
    rcases hf with rfl | rfl <;> exact e3
/-- a loop that ends by itself or gives back: R what is given back -/
theorem for_ret (I : List D → En → Prop) (R : FV → En → Prop) : ∀ (items : List D) (ρ : En), I items ρ → (∀ x xs ρ, I (x :: xs) ρ → ∃ ρ1 ρ2 f, asgT g x ρ = .ok () ρ1 ∧ body ρ1 = .ok f ρ2 ∧ (((f = .nx ∨ f = .ct) ∧ I xs ρ2) ∨ ∃ y, f = .rt y ∧ R y ρ2)) →
    (∃ ρ', forGo g body items ρ = .ok .nx ρ' ∧ I [] ρ') ∨ ∃ y ρ', forGo g body items ρ = .ok (.rt y) ρ' ∧ R y ρ'
  | [], ρ, h, _ => .inl ⟨ρ, rfl, h⟩
  | x :: xs, ρ, h, hs => by
    obtain ⟨ρ1, ρ2, f, e1, e2, hf⟩ := hs x xs ρ h
    have e0 : forGo g body (x :: xs) ρ = M.bnd (asgT g x) (fun _ => body.bnd fun f => match f with
      | .nx => forGo g body xs
      | .ct => forGo g body xs
      | .bk => M.ret .nx
      | .rt y => M.ret (.rt y)) ρ := rfl
    rcases hf with ⟨hf, h2⟩ | ⟨y, rfl, hy⟩
    · have e4 : forGo g body (x :: xs) ρ = forGo g body xs ρ2 := by
        rw [e0, bnd_ap, e1]
        dsimp only
        rw [bnd_ap, e2]
        rcases hf with rfl | rfl <;> rfl
      rcases for_ret I R xs ρ2 h2 hs with ⟨ρ', e3, h3⟩ | ⟨y, ρ', e3, h3⟩
      · exact .inl ⟨ρ', by rw [e4, e3], h3⟩
      · exact .inr ⟨y, ρ', by rw [e4, e3], h3⟩
    · refine .inr ⟨y, ρ2, ?_, hy⟩
      rw [e0, bnd_ap, e1]
      dsimp only
      rw [bnd_ap, e2]
      rfl
end
section
variable {Φ : Nat → Fn} {np : Nat} {g : Tg} {it : CI} {b : CSs} {ρ ρ1 : En} {items : List D}
theorem for_unf : evS Φ np (.for_ g it b) = withIt it (evI Φ it) fun items => forGo g (evSs Φ np b) items := by
  simp only [evS]
theorem for_it (hI : evI Φ it ρ = .ok items ρ1) (hn : lendOf it = none) : evS Φ np (.for_ g it b) ρ = forGo g (evSs Φ np b) items ρ1 := by
  rw [for_unf]
  unfold withIt
  rw [hn]
  dsimp only
  rw [bnd_ap, hI]
theorem for_dat {i : Nat} {d : D} (hi : ρ[i]? = some (some (.fv (.dat d)))) (hd : itemsOf d = some items) : evS Φ np (.for_ g (.slot i) b) ρ = forGo g (evSs Φ np b) items ρ := by
  rw [for_unf]
  show lendM i _ ρ = _
  unfold lendM
  rw [hi]
  dsimp only
  rw [hd]
theorem for_own {i : Nat} (hi : ρ[i]? = some (some (.fv (.lst items)))) : evS Φ np (.for_ g (.slot i) b) ρ = match forGo g (evSs Φ np b) items (ρ.set i none) with
    | .ok a ρ' => .ok a (ρ'.set i (some (.lst items)))
    | .exc e ρ' => .exc e (ρ'.set i (some (.lst items)))
    | .stuck => .stuck := by
  rw [for_unf]
  show lendM i _ ρ = _
  unfold lendM
  rw [hi]
  dsimp only
  cases forGo g (evSs Φ np b) items (ρ.set i none) <;> rfl
end
/-! ### lists of one kind -/
theorem blsOf_map {α : Type} (p : α → Bool) : ∀ l : List α, blsOf (l.map fun x => .bl (p x)) = some (l.map p)
  | [] => rfl
  | x :: r => by
    rw [List.map_cons, List.map_cons]
    show (blsOf (r.map fun x => .bl (p x))).map (p x :: ·) = _
    rw [blsOf_map p r]
    rfl
theorem intsOf_map {α : Type} (p : α → Int) : ∀ l : List α, intsOf (l.map fun x => .int (p x)) = some (l.map p)
  | [] => rfl
  | x :: r => by
    rw [List.map_cons, List.map_cons]
    show (intsOf (r.map fun x => .int (p x))).map (p x :: ·) = _
    rw [intsOf_map p r]
    rfl
theorem strsOf_map {α : Type} (p : α → Str) : ∀ l : List α, strsOf (l.map fun x => .str (p x)) = some (l.map p)
  | [] => rfl
  | x :: r => by
    rw [List.map_cons, List.map_cons]
    show (strsOf (r.map fun x => .str (p x))).map (p x :: ·) = _
    rw [strsOf_map p r]
    rfl
theorem blsOf_fm (p : D → Bool) (l : List D) : blsOf (l.filterMap fun x => some (.bl (p x))) = some (l.map p) := by rw [fm_map]; exact blsOf_map p l
theorem intsOf_fm (p : D → Int) (l : List D) : intsOf (l.filterMap fun x => some (.int (p x))) = some (l.map p) := by rw [fm_map]; exact intsOf_map p l
theorem all_idm {α : Type} (p : α → Bool) (l : List α) : (l.map p).all id = l.all p := by rw [List.all_map]; rfl
theorem all_ttt {α : Type} (l : List α) : (l.all fun _ => true) = true := List.all_eq_true.mpr fun _ _ => rfl
theorem any_idm {α : Type} (p : α → Bool) (l : List α) : (l.map p).any id = l.any p := by rw [List.any_map]; rfl
/-- plain lists: (of) things of one kind -/
theorem pls_map {α : Type} {f : α → D} (h : ∀ x, pl (f x) = true) : ∀ l : List α, pls (l.map f) = true
  | [] => rfl
  | x :: r => by
    show (pl (f x) && pls (r.map f)) = true
    rw [h x, pls_map h r]
    rfl
theorem dps_map {α : Type} {f : α → D} {m : Nat} (h : ∀ x, dp (f x) ≤ m) : ∀ l : List α, dps (l.map f) ≤ m
  | [] => Nat.zero_le _
  | x :: r => by
    show max (dp (f x)) (dps (r.map f)) ≤ m
    have := h x
    have := dps_map h r
    omega
theorem deqs_map {α : Type} [DecidableEq α] {f : α → D} (h : ∀ x y, deq (f x) (f y) = decide (x = y)) : ∀ l m : List α, deqs (l.map f) (m.map f) = decide (l = m)
  | [], [] => rfl
  | [], y :: m => by simp [deqs]
  | x :: l, [] => by simp [deqs]
  | x :: l, y :: m => by
    show (deq (f x) (f y) && deqs (l.map f) (m.map f)) = _
    rw [h, deqs_map h l m, Bool.eq_iff_iff]
    simp
theorem deq_int (i j : Int) : deq (.int i) (.int j) = decide (i = j) := by
  show (i == j) = _
  by_cases h : i = j <;> simp [h]
/-! ### comprehensions over things of one kind -/
theorem fm_enc {α : Type} {enc : α → D} {g : α → D} {p : α → Bool} {f : D → Option D} : ∀ {ls : List α}, (∀ x ∈ ls, f (enc x) = if p x then some (g x) else none) → (ls.map enc).filterMap f = (ls.filter p).map g
  | [], _ => rfl
  | x :: r, h => by
    have h1 := h x List.mem_cons_self
    have h2 := fm_enc (ls := r) (f := f) fun y hy => h y (List.mem_cons_of_mem _ hy)
    rw [List.map_cons, List.filterMap_cons, h1, List.filter_cons]
    cases p x with
    | true => simp only [if_true, List.map_cons, h2]
    | false => simp only [if_false, Bool.false_eq_true, h2]
section
variable {Φ : Nat → Fn} {own : List Nat} {g : Tg} {it : CI} {c : CTs} {e : CE} {ρ ρ1 : En} {α : Type}
theorem lcGo_enc {body : D → M (Option D)} {ρ0 : En} (enc q : α → D) (p : α → Bool) : ∀ (ls : List α) (acc : List D) (ρ : En), Ag own ρ0 ρ → (∀ x ∈ ls, ∃ ρ', body (enc x) (wipeE ρ0 own) = .ok (if p x then some (q x) else none) ρ' ∧ Ag own ρ0 ρ') → acc.length + ls.length ≤ 16000000 →
    ∃ ρ', lcGo own body (ls.map enc) acc ρ = .ok (acc ++ (ls.filter p).map q) ρ' ∧ Ag own ρ0 ρ'
  | [], acc, ρ, a, h, hl => ⟨ρ, by simp [lcGo, M.ret], a⟩
  | x :: xs, acc, ρ, a, h, hl => by
    obtain ⟨ρ1, e1, a1⟩ := h x List.mem_cons_self
    have hx : ∀ y ∈ xs, ∃ ρ', body (enc y) (wipeE ρ0 own) = .ok (if p y then some (q y) else none) ρ' ∧ Ag own ρ0 ρ' := fun y hy => h y (List.mem_cons_of_mem _ hy)
    rw [List.length_cons] at hl
    have e0 : lcGo own body (enc x :: xs.map enc) acc ρ = (body (enc x)).bnd (fun o => match o with
      | some d => if sz (acc.length + 1) then lcGo own body (xs.map enc) (acc ++ [d]) else fun _ => .stuck
      | none => lcGo own body (xs.map enc) acc) (wipeE ρ own) := rfl
    rw [List.map_cons, e0, a.1, bnd_ap, e1, List.filter_cons]
    cases e : p x with
    | false =>
      dsimp only
      rw [if_neg (by decide), if_neg (by decide)]
      exact lcGo_enc enc q p xs acc ρ1 a1 hx (by omega)
    | true =>
      dsimp only
      rw [if_pos rfl, if_pos rfl]
      dsimp only
      rw [if_pos (by simp [sz]; omega)]
      obtain ⟨ρ', e2, a2⟩ := lcGo_enc enc q p xs (acc ++ [q x]) ρ1 a1 hx (by simp; omega)
      exact ⟨ρ', by rw [e2]; simp, a2⟩
theorem lc_coreF (enc q : α → D) (p : α → Bool) (ls : List α) (hf : frozenAt ρ own = true) (ha : Ag own ρ ρ) (hl : ls.length ≤ 16000000) (h : ∀ x ∈ ls, ∃ ρ', lcBody Φ g c e (enc x) (wipeE ρ own) = .ok (if p x then some (q x) else none) ρ' ∧ Ag own ρ ρ') :
    (if frozenAt ρ own then
      (match (lcGo own (lcBody Φ g c e) (ls.map enc) []) ρ with
      | .ok acc ρ' => Out.ok (R.val (.lst acc)) (restore ρ own ρ')
      | _ => .stuck) else .stuck) = .ok (.val (.lst ((ls.filter p).map q))) ρ := by
  rw [if_pos hf]
  obtain ⟨ρ', e1, a1⟩ := lcGo_enc enc q p ls [] ρ ha h (by simpa using hl)
  rw [e1]
  dsimp only
  rw [a1.2, List.nil_append]
theorem lc_itF (enc q : α → D) (p : α → Bool) (ls : List α) (hI : evI Φ it ρ = .ok (ls.map enc) ρ1) (hn : lendOf it = none) (hf : frozenAt ρ1 own = true) (ha : Ag own ρ1 ρ1) (hl : ls.length ≤ 16000000) (h : ∀ x ∈ ls, ∃ ρ', lcBody Φ g c e (enc x) (wipeE ρ1 own) = .ok (if p x then some (q x) else none) ρ' ∧ Ag own ρ1 ρ') :
    ev Φ (.lc own g it c e) ρ = .ok (.val (.lst ((ls.filter p).map q))) ρ1 := by
  rw [lc_unf]
  unfold withIt
  rw [hn]
  dsimp only
  rw [bnd_ap, hI]
  exact lc_coreF enc q p ls hf ha hl h
theorem lc_datF (enc q : α → D) (p : α → Bool) (ls : List α) {i : Nat} {d : D} (hi : ρ[i]? = some (some (.fv (.dat d)))) (hd : itemsOf d = some (ls.map enc)) (hf : frozenAt ρ own = true) (ha : Ag own ρ ρ) (hl : ls.length ≤ 16000000) (h : ∀ x ∈ ls, ∃ ρ', lcBody Φ g c e (enc x) (wipeE ρ own) = .ok (if p x then some (q x) else none) ρ' ∧ Ag own ρ ρ') :
    ev Φ (.lc own g (.slot i) c e) ρ = .ok (.val (.lst ((ls.filter p).map q))) ρ := by
  rw [lc_unf]
  unfold withIt lendOf
  dsimp only
  unfold lendM
  rw [hi]
  dsimp only
  rw [hd]
  exact lc_coreF enc q p ls hf ha hl h
theorem lc_ownF (enc q : α → D) (p : α → Bool) (ls : List α) {i : Nat} (hi : ρ[i]? = some (some (.fv (.lst (ls.map enc))))) (hr : (ρ.set i none).set i (some (.lst (ls.map enc))) = ρ) (hf : frozenAt (ρ.set i none) own = true) (ha : Ag own (ρ.set i none) (ρ.set i none)) (hl : ls.length ≤ 16000000)
    (h : ∀ x ∈ ls, ∃ ρ', lcBody Φ g c e (enc x) (wipeE (ρ.set i none) own) = .ok (if p x then some (q x) else none) ρ' ∧ Ag own (ρ.set i none) ρ') :
    ev Φ (.lc own g (.slot i) c e) ρ = .ok (.val (.lst ((ls.filter p).map q))) ρ := by
  rw [lc_unf]
  unfold withIt lendOf
  dsimp only
  unfold lendM
  rw [hi]
  dsimp only
  have := lc_coreF (Φ := Φ) (g := g) (c := c) (e := e) (ρ := ρ.set i none) (own := own) enc q p ls hf ha hl h
  rw [this]
  dsimp only
  rw [hr]
theorem filter_true : ∀ l : List α, l.filter (fun _ => true) = l := fun l => List.filter_eq_self.mpr fun _ _ => rfl
theorem lc_itM (enc q : α → D) (ls : List α) (hI : evI Φ it ρ = .ok (ls.map enc) ρ1) (hn : lendOf it = none) (hf : frozenAt ρ1 own = true) (ha : Ag own ρ1 ρ1) (hl : ls.length ≤ 16000000) (h : ∀ x ∈ ls, ∃ ρ', lcBody Φ g c e (enc x) (wipeE ρ1 own) = .ok (some (q x)) ρ' ∧ Ag own ρ1 ρ') :
    ev Φ (.lc own g it c e) ρ = .ok (.val (.lst (ls.map q))) ρ1 := by
  rw [lc_itF enc q (fun _ => true) ls hI hn hf ha hl h, filter_true]
theorem lc_datM (enc q : α → D) (ls : List α) {i : Nat} {d : D} (hi : ρ[i]? = some (some (.fv (.dat d)))) (hd : itemsOf d = some (ls.map enc)) (hf : frozenAt ρ own = true) (ha : Ag own ρ ρ) (hl : ls.length ≤ 16000000) (h : ∀ x ∈ ls, ∃ ρ', lcBody Φ g c e (enc x) (wipeE ρ own) = .ok (some (q x)) ρ' ∧ Ag own ρ ρ') :
    ev Φ (.lc own g (.slot i) c e) ρ = .ok (.val (.lst (ls.map q))) ρ := by
  rw [lc_datF enc q (fun _ => true) ls hi hd hf ha hl h, filter_true]
theorem lc_ownM (enc q : α → D) (ls : List α) {i : Nat} (hi : ρ[i]? = some (some (.fv (.lst (ls.map enc))))) (hr : (ρ.set i none).set i (some (.lst (ls.map enc))) = ρ) (hf : frozenAt (ρ.set i none) own = true) (ha : Ag own (ρ.set i none) (ρ.set i none)) (hl : ls.length ≤ 16000000)
    (h : ∀ x ∈ ls, ∃ ρ', lcBody Φ g c e (enc x) (wipeE (ρ.set i none) own) = .ok (some (q x)) ρ' ∧ Ag own (ρ.set i none) ρ') :
    ev Φ (.lc own g (.slot i) c e) ρ = .ok (.val (.lst (ls.map q))) ρ := by
  rw [lc_ownF enc q (fun _ => true) ls hi hr hf ha hl h, filter_true]
end
/-! ### comparing lists of one kind -/
section
variable {α : Type} [DecidableEq α] {f : α → D}
theorem eqD_lst (hp : ∀ x, pl (f x) = true) (hd : ∀ x, dp (f x) ≤ 62) (hq : ∀ x y, deq (f x) (f y) = decide (x = y)) (l m : List α) : eqD (.lst (l.map f)) (.lst (m.map f)) = some (decide (l = m)) := by
  have h1 := dps_map hd l
  have h2 := dps_map hd m
  rw [eqD_ok (d := .lst (l.map f)) (e := .lst (m.map f)) (pls_map hp l) (pls_map hp m) (by show dps (l.map f) + 1 ≤ 64; omega) (by show dps (m.map f) + 1 ≤ 64; omega)]
  exact congrArg some (deqs_map hq l m)
theorem eqD_tup (hp : ∀ x, pl (f x) = true) (hd : ∀ x, dp (f x) ≤ 62) (hq : ∀ x y, deq (f x) (f y) = decide (x = y)) (l m : List α) : eqD (.tup (l.map f)) (.tup (m.map f)) = some (decide (l = m)) := by
  have h1 := dps_map hd l
  have h2 := dps_map hd m
  rw [eqD_ok (d := .tup (l.map f)) (e := .tup (m.map f)) (pls_map hp l) (pls_map hp m) (by show dps (l.map f) + 1 ≤ 64; omega) (by show dps (m.map f) + 1 ≤ 64; omega)]
  exact congrArg some (deqs_map hq l m)
theorem inD_map (hp : ∀ x, pl (f x) = true) (hd : ∀ x, dp (f x) ≤ 62) (hq : ∀ x y, deq (f x) (f y) = decide (x = y)) (x : α) (l : List α) : inD (f x) (l.map f) = some (decide (x ∈ l)) := by
  have h1 := dps_map hd l
  have h2 := hd x
  rw [inD_ok (hp x) (pls_map hp l) (by omega) (by omega)]
  congr 1
  induction l with
  | nil => rfl
  | cons y r ih =>
    rw [List.map_cons, List.any_cons, ih (dps_map hd r), hq, ← Bool.decide_or, decide_eq_decide, List.mem_cons]
    exact ⟨fun h => h.imp Eq.symm id, fun h => h.imp Eq.symm id⟩
end
theorem deq_nat (i j : Nat) : deq (.int (i : Int)) (.int (j : Int)) = decide (i = j) := by
  rw [deq_int, decide_eq_decide]
  omega
theorem eqD_ints (l m : List Int) : eqD (.lst (l.map D.int)) (.lst (m.map D.int)) = some (decide (l = m)) := eqD_lst (fun _ => rfl) (fun _ => Nat.zero_le _) deq_int l m
theorem inD_nat (i : Nat) (l : List Nat) : inD (.int (i : Int)) (l.map fun r : Nat => .int (r : Int)) = some (decide (i ∈ l)) := inD_map (f := fun r : Nat => D.int (r : Int)) (fun _ => rfl) (fun _ => Nat.zero_le _) deq_nat i l
theorem eqD_nats (l m : List Nat) : eqD (.lst (l.map fun r : Nat => .int (r : Int))) (.lst (m.map fun r : Nat => .int (r : Int))) = some (decide (l = m)) := eqD_lst (f := fun r : Nat => D.int (r : Int)) (fun _ => rfl) (fun _ => Nat.zero_le _) deq_nat l m
theorem sortedSet_bi {ns : List Int} (h : ns.length < 64) : bi .sortedSet [.tup (ns.map D.int)] = some (.lst ((ns.eraseDups.mergeSort (fun i j => decide (i ≤ j))).map D.int)) := by
  have e : intsOf (ns.map D.int) = some ns := by
    have := intsOf_map (fun i : Int => i) ns
    rw [List.map_id'] at this
    exact this
  show (match intsOf (ns.map D.int) with
    | some ns => if decide (ns.length < 64) then some (FV.lst ((ns.eraseDups.mergeSort (fun i j => decide (i ≤ j))).map D.int)) else none
    | none => none) = _
  rw [e]
  dsimp only
  rw [if_pos (decide_eq_true h)]
/-! ### ranges -/
section
variable {Φ : Nat → Fn} {ρ ρ1 ρ2 : En}
theorem rng1_ok {e : CE} {r : R} {j : Int} (h : ev Φ e ρ = .ok r ρ1) (hx : r.get ρ1 = some (.dat (.int j))) (hr : rngOk 0 j = true) : evI Φ (.rng1 e) ρ = .ok (rngD 0 j.toNat 1) ρ1 := by
  have e0 : evI Φ (.rng1 e) ρ = M.bnd (ev Φ e) (fun r => (getM r).bnd fun x => (M.opt (asInt x)).bnd fun j => if rngOk 0 j then M.ret (rngD 0 j.toNat 1) else fun _ => .stuck) ρ := rfl
  rw [e0, bnd_ap, h]
  dsimp only
  rw [bnd_ap]
  unfold getM
  rw [hx, opt_some]
  dsimp only
  rw [bnd_ap]
  have e1 : asInt (.dat (.int j)) = some j := rfl
  rw [e1, opt_some]
  dsimp only
  rw [if_pos hr]
  rfl
theorem rng2_ok {a b : CE} {r q : R} {i j : Int} (h : ev Φ a ρ = .ok r ρ1) (h2 : ev Φ b ρ1 = .ok q ρ2) (hx : r.get ρ2 = some (.dat (.int i))) (hy : q.get ρ2 = some (.dat (.int j))) (hr : rngOk i j = true) : evI Φ (.rng2 a b) ρ = .ok (rngD i (j - i).toNat 1) ρ2 := by
  have e0 : evI Φ (.rng2 a b) ρ = M.bnd (ev Φ a) (fun r => (ev Φ b).bnd fun q => (getM r).bnd fun x => (getM q).bnd fun y => (M.opt (asInt x)).bnd fun i => (M.opt (asInt y)).bnd fun j => if rngOk i j then M.ret (rngD i (j - i).toNat 1) else fun _ => .stuck) ρ := rfl
  rw [e0, bnd_ap, h]
  dsimp only
  rw [bnd_ap, h2]
  dsimp only
  rw [bnd_ap]
  unfold getM
  rw [hx, opt_some]
  dsimp only
  rw [bnd_ap, hy, opt_some]
  dsimp only
  rw [bnd_ap]
  have e1 : asInt (.dat (.int i)) = some i := rfl
  have e2 : asInt (.dat (.int j)) = some j := rfl
  rw [e1, opt_some]
  dsimp only
  rw [bnd_ap, e2, opt_some]
  dsimp only
  rw [if_pos hr]
  rfl
end
theorem rngD_nats (m : Nat) : rngD 0 m 1 = (List.range m).map fun i : Nat => .int (i : Int) := by
  unfold rngD
  refine List.map_congr_left fun i _ => ?_
  congr 1
  omega
theorem rngOk_nat {m : Nat} (h : m ≤ 1000000000) : rngOk 0 (m : Int) = true := by
  unfold rngOk
  rw [decide_eq_true (by omega), decide_eq_true (by omega)]
  rfl
/-- range(n), n a natural number -/
theorem rng_nat {Φ : Nat → Fn} {ρ ρ1 : En} {e : CE} {r : R} {m : Nat} (h : ev Φ e ρ = .ok r ρ1) (hx : r.get ρ1 = some (.dat (.int (m : Int)))) (hr : m ≤ 1000000000) : evI Φ (.rng1 e) ρ = .ok ((List.range m).map fun i : Nat => .int (i : Int)) ρ1 := by
  rw [rng1_ok h hx (rngOk_nat hr), Int.toNat_natCast, rngD_nats]
/-! ### written lists -/
theorem ofE : blsOf [] = some [] ∧ (∀ b r, blsOf (.bl b :: r) = (blsOf r).map (b :: ·)) ∧ intsOf [] = some [] ∧ (∀ b r, intsOf (.int b :: r) = (intsOf r).map (b :: ·)) ∧ strsOf [] = some [] ∧ (∀ b r, strsOf (.str b :: r) = (strsOf r).map (b :: ·)) :=
  ⟨rfl, fun _ _ => rfl, rfl, fun _ _ => rfl, rfl, fun _ _ => rfl⟩
end Dv
end
section
set_option Elab.async false
set_option maxRecDepth 100000
set_option linter.all false
/-! Numbers of eighth turns: four whole numbers by a power of the root -/
namespace Dv.Law
structure Q4 where
  a : Int
  b : Int
  c : Int
  d : Int
  deriving DecidableEq
namespace Q4
theorem ext' {x y : Q4} (h1 : x.a = y.a) (h2 : x.b = y.b) (h3 : x.c = y.c) (h4 : x.d = y.d) : x = y := by
  obtain ⟨a, b, c, d⟩ := x
  obtain ⟨a', b', c', d'⟩ := y
  dsimp only at h1 h2 h3 h4
  rw [h1, h2, h3, h4]
def zero : Q4 := ⟨0, 0, 0, 0⟩
def rt (x : Q4) : Q4 := ⟨x.b - x.d, x.a + x.c, x.b + x.d, x.c - x.a⟩
def rts : Nat → Q4 → Q4
  | 0, x => x
  | n + 1, x => rts n (rt x)
def dbl (n : Nat) (x : Q4) : Q4 := ⟨2 ^ n * x.a, 2 ^ n * x.b, 2 ^ n * x.c, 2 ^ n * x.d⟩
def add (x y : Q4) : Q4 := ⟨x.a + y.a, x.b + y.b, x.c + y.c, x.d + y.d⟩
def mul (x y : Q4) : Q4 := ⟨x.a * y.a - x.b * y.d - x.c * y.c - x.d * y.b, x.a * y.b + x.b * y.a - x.c * y.d - x.d * y.c, x.a * y.c + x.b * y.b + x.c * y.a - x.d * y.d, x.a * y.d + x.b * y.c + x.c * y.b + x.d * y.a⟩
def conj (x : Q4) : Q4 := ⟨x.a, -x.d, -x.c, -x.b⟩
def tw (x : Q4) : Q4 := ⟨-x.d, x.a, x.b, x.c⟩
def tws : Nat → Q4 → Q4
  | 0, x => x
  | n + 1, x => tws n (tw x)
def Even (x : Q4) : Prop := (x.a - x.c) % 2 = 0 ∧ (x.b - x.d) % 2 = 0
instance (x : Q4) : Decidable x.Even := inferInstanceAs (Decidable (_ ∧ _))
def half (x : Q4) : Q4 := ⟨(x.b - x.d) / 2, (x.a + x.c) / 2, (x.b + x.d) / 2, (x.c - x.a) / 2⟩
theorem rt_rt (x : Q4) : rt (rt x) = dbl 1 x := by
  apply ext' <;> simp only [rt, dbl] <;> omega
theorem rt_inj {x y : Q4} (h : rt x = rt y) : x = y := by
  have h2 := congrArg rt h
  rw [rt_rt, rt_rt] at h2
  simp only [dbl, Q4.mk.injEq] at h2
  apply ext' <;> omega
theorem rt_half {x : Q4} (h : x.Even) : rt (half x) = x := by
  unfold Even at h
  apply ext' <;> simp only [rt, half] <;> omega
theorem rts_rt : ∀ (n : Nat) (x : Q4), rts n (rt x) = rt (rts n x)
  | 0, x => rfl
  | n + 1, x => rts_rt n (rt x)
theorem rts_succ (n : Nat) (x : Q4) : rts (n + 1) x = rt (rts n x) := rts_rt n x
theorem rts_add : ∀ (m n : Nat) (x : Q4), rts (m + n) x = rts m (rts n x)
  | 0, n, x => by rw [Nat.zero_add]; rfl
  | m + 1, n, x => by rw [show m + 1 + n = (m + n) + 1 by omega, rts_succ, rts_succ, rts_add m n]
theorem rts_comm (m n : Nat) (x : Q4) : rts m (rts n x) = rts n (rts m x) := by rw [← rts_add, ← rts_add, Nat.add_comm]
theorem rts_inj : ∀ (n : Nat) {x y : Q4}, rts n x = rts n y → x = y
  | 0, x, y, h => h
  | n + 1, x, y, h => rt_inj (rts_inj n h)
theorem rts_zero : ∀ n : Nat, rts n zero = zero
  | 0 => rfl
  | n + 1 => by
    rw [rts_succ, rts_zero n]
    rfl
theorem rts_two : ∀ (n : Nat) (x : Q4), rts (2 * n) x = dbl n x
  | 0, x => by apply ext' <;> simp [rts, dbl]
  | n + 1, x => by
    rw [show 2 * (n + 1) = 2 * n + 1 + 1 by omega, rts_succ, rts_succ, rt_rt, rts_two n]
    simp only [dbl, Int.pow_succ]
    apply ext' <;> grind
theorem rt_add (x y : Q4) : rt (add x y) = add (rt x) (rt y) := by
  apply ext' <;> simp only [rt, add] <;> omega
theorem rts_dist : ∀ (n : Nat) (x y : Q4), rts n (add x y) = add (rts n x) (rts n y)
  | 0, x, y => rfl
  | n + 1, x, y => by rw [rts_succ, rts_dist n, rt_add, ← rts_succ, ← rts_succ]
theorem rt_mul (x y : Q4) : mul (rt x) y = rt (mul x y) := by
  apply ext' <;> simp only [rt, mul] <;> grind
theorem mul_comm (x y : Q4) : mul x y = mul y x := by
  apply ext' <;> simp only [mul] <;> grind
theorem rts_mul : ∀ (n : Nat) (x y : Q4), mul (rts n x) y = rts n (mul x y)
  | 0, x, y => rfl
  | n + 1, x, y => by rw [rts_succ, rt_mul, rts_mul n, ← rts_succ]
theorem mul_rts (n : Nat) (x y : Q4) : mul x (rts n y) = rts n (mul x y) := by rw [mul_comm, rts_mul, mul_comm]
theorem rt_conj (x : Q4) : conj (rt x) = rt (conj x) := by
  apply ext' <;> simp only [rt, conj] <;> omega
theorem rts_conj : ∀ (n : Nat) (x : Q4), conj (rts n x) = rts n (conj x)
  | 0, x => rfl
  | n + 1, x => by rw [rts_succ, rt_conj, rts_conj n, ← rts_succ]
theorem rt_tw (x : Q4) : tw (rt x) = rt (tw x) := by
  apply ext' <;> simp only [rt, tw] <;> omega
theorem rts_tw : ∀ (n : Nat) (x : Q4), tw (rts n x) = rts n (tw x)
  | 0, x => rfl
  | n + 1, x => by rw [rts_succ, rt_tw, rts_tw n, ← rts_succ]
theorem rts_tws : ∀ (m n : Nat) (x : Q4), tws m (rts n x) = rts n (tws m x)
  | 0, n, x => rfl
  | m + 1, n, x => by
    show tws m (tw (rts n x)) = rts n (tws m (tw x))
    rw [rts_tw, rts_tws m]
/-- the same number: x by root ** k, y by root ** l -/
def Eqv (x : Q4) (k : Nat) (y : Q4) (l : Nat) : Prop := rts l x = rts k y
theorem Eqv.refl (x : Q4) (k : Nat) : Eqv x k x k := rfl
theorem Eqv.symm {x y : Q4} {k l : Nat} (h : Eqv x k y l) : Eqv y l x k := Eq.symm h
theorem Eqv.trans {x y z : Q4} {k l m : Nat} (h1 : Eqv x k y l) (h2 : Eqv y l z m) : Eqv x k z m := by
  unfold Eqv at *
  refine rts_inj l ?_
  rw [rts_comm, h1, rts_comm, h2, rts_comm]
theorem eqv_up (n : Nat) (x : Q4) (k : Nat) : Eqv (rts n x) (k + n) x k := by
  unfold Eqv
  rw [rts_add]
theorem eqv_shift (r : Nat) {x y : Q4} {k l : Nat} (h : Eqv x k y l) : Eqv x (k + r) y (l + r) := by
  unfold Eqv at *
  rw [Nat.add_comm l, Nat.add_comm k, rts_add, rts_add, h]
theorem eqv_conj {x y : Q4} {k l : Nat} (h : Eqv x k y l) : Eqv (conj x) k (conj y) l := by
  unfold Eqv at *
  rw [← rts_conj, ← rts_conj, h]
theorem eqv_tws (m : Nat) {x y : Q4} {k l : Nat} (h : Eqv x k y l) : Eqv (tws m x) k (tws m y) l := by
  unfold Eqv at *
  rw [← rts_tws, ← rts_tws, h]
theorem eqv_mul {x y z u : Q4} {k l m n : Nat} (h1 : Eqv x k y l) (h2 : Eqv z m u n) : Eqv (mul x z) (k + m) (mul y u) (l + n) := by
  unfold Eqv at *
  rw [rts_add, ← mul_rts, ← rts_mul, h1, h2, rts_mul, mul_rts, ← rts_add]
/-- the sum by the greater root -/
def sum (x : Q4) (k : Nat) (y : Q4) (l : Nat) : Q4 := add (rts (max k l - k) x) (rts (max k l - l) y)
theorem sum_at {x y : Q4} {k l : Nat} {K : Nat} (h1 : k ≤ K) (h2 : l ≤ K) : Eqv (sum x k y l) (max k l) (add (rts (K - k) x) (rts (K - l) y)) K := by
  have hm : max k l ≤ K := Nat.max_le.mpr ⟨h1, h2⟩
  have h3 : k ≤ max k l := Nat.le_max_left ..
  have h4 : l ≤ max k l := Nat.le_max_right ..
  generalize hM : max k l = M at *
  unfold Eqv sum
  rw [hM, rts_dist, rts_dist, ← rts_add, ← rts_add, ← rts_add, ← rts_add]
  congr 2 <;> omega
theorem eqv_sum {x y z u : Q4} {k l m n : Nat} (h1 : Eqv x k y l) (h2 : Eqv z m u n) : Eqv (sum x k z m) (max k m) (sum y l u n) (max l n) := by
  have e1 := sum_at (x := x) (y := z) (k := k) (l := m) (K := k + l + m + n) (by omega) (by omega)
  have e2 := sum_at (x := y) (y := u) (k := l) (l := n) (K := k + l + m + n) (by omega) (by omega)
  refine e1.trans (Eqv.trans ?_ e2.symm)
  unfold Eqv at h1 h2 ⊢
  congr 1
  congr 1
  · rw [show k + l + m + n - k = (m + n) + l by omega, show k + l + m + n - l = (m + n) + k by omega, rts_add (m + n) l, rts_add (m + n) k, h1]
  · rw [show k + l + m + n - m = (k + l) + n by omega, show k + l + m + n - n = (k + l) + m by omega, rts_add (k + l) n, rts_add (k + l) m, h2]
/-- by halves alone -/
theorem same_of {x y : Q4} {h g : Nat} (e : Eqv x (2 * h) y (2 * g)) : dbl (max h g - h) x = dbl (max h g - g) y := by
  unfold Eqv at e
  rw [← rts_two, ← rts_two]
  have hm : min h g ≤ h := Nat.min_le_left ..
  refine rts_inj (2 * min h g) ?_
  rw [← rts_add, ← rts_add]
  rw [show 2 * min h g + 2 * (max h g - h) = 2 * g by omega, show 2 * min h g + 2 * (max h g - g) = 2 * h by omega, e]
theorem of_same {x y : Q4} {h g : Nat} (e : dbl (max h g - h) x = dbl (max h g - g) y) : Eqv x (2 * h) y (2 * g) := by
  unfold Eqv
  rw [show 2 * g = 2 * min h g + 2 * (max h g - h) by omega, show 2 * h = 2 * min h g + 2 * (max h g - g) by omega, rts_add, rts_add, rts_two (max h g - h), rts_two (max h g - g), e]
theorem sum_dbl {x y : Q4} {h g : Nat} : add (dbl (max h g - h) x) (dbl (max h g - g) y) = sum x (2 * h) y (2 * g) := by
  unfold sum
  rw [← rts_two, ← rts_two]
  congr 2 <;> omega
end Q4
end Dv.Law
namespace Dv
theorem evH (Φ : Nat → Fn) (ρ : En) : (∀ b it, ev Φ (.itl b it) ρ = M.bnd (evI Φ it) (fun ds => if sz ds.length then (if b then M.ret (.val (.lst ds)) else M.ret (.val (.dat (.tup ds)))) else fun _ => .stuck) ρ) := by
  intros
  first | rfl | (simp only [ev, M.ret])
theorem zipE : (∀ ys, zipD [] ys = []) ∧ (∀ xs, zipD xs [] = []) ∧ (∀ x y xs ys, zipD (x :: xs) (y :: ys) = .tup [x, y] :: zipD xs ys) := ⟨fun _ => rfl, fun xs => by cases xs <;> rfl, fun _ _ _ _ => rfl⟩
theorem for_count {g : Tg} {body : M Fl} (P : Nat → En → Prop) (items : List D) (ρ : En) (h0 : P 0 ρ) (h : ∀ (i : Nat) (x : D) (ρ : En), items[i]? = some x → P i ρ → ∃ ρ1 ρ2 f, asgT g x ρ = .ok () ρ1 ∧ body ρ1 = .ok f ρ2 ∧ (f = .nx ∨ f = .ct) ∧ P (i + 1) ρ2) :
    ∃ ρ', forGo g body items ρ = .ok .nx ρ' ∧ P items.length ρ' := by
  obtain ⟨ρ', e, i, hd, hi, hp⟩ := for_inv (g := g) (body := body) (fun xs ρ => ∃ i, items.drop i = xs ∧ i ≤ items.length ∧ P i ρ) items ρ ⟨0, rfl, Nat.zero_le _, h0⟩ fun x xs ρ ⟨i, hd, hi, hp⟩ => by
    have hx : items[i]? = some x := by
      have := congrArg List.head? hd
      rw [List.head?_drop] at this
      exact this
    obtain ⟨ρ1, ρ2, f, e1, e2, e3, e4⟩ := h i x ρ hx hp
    refine ⟨ρ1, ρ2, f, e1, e2, e3, i + 1, ?_, (List.getElem?_eq_some_iff.mp hx).1, e4⟩
    rw [← List.tail_drop, hd]
    rfl
  have : items.length ≤ i := List.drop_eq_nil_iff.mp hd
  have : i = items.length := by omega
  subst this
  exact ⟨ρ', e, hp⟩
theorem for_range {g : Tg} {body : M Fl} (P : Nat → En → Prop) (m : Nat) (ρ : En) (h0 : P 0 ρ) (h : ∀ (i : Nat) (ρ : En), i < m → P i ρ → ∃ ρ1 ρ2 f, asgT g (.int (i : Int)) ρ = .ok () ρ1 ∧ body ρ1 = .ok f ρ2 ∧ (f = .nx ∨ f = .ct) ∧ P (i + 1) ρ2) :
    ∃ ρ', forGo g body ((List.range m).map fun i : Nat => .int (i : Int)) ρ = .ok .nx ρ' ∧ P m ρ' := by
  obtain ⟨ρ', e, hp⟩ := for_count (g := g) (body := body) P ((List.range m).map fun i : Nat => .int (i : Int)) ρ h0 fun i x ρ hx hp => by
    rw [List.getElem?_map] at hx
    have hi : i < m := by
      cases e : (List.range m)[i]? with
      | none =>
        rw [e] at hx
        cases hx
      | some j =>
        have := (List.getElem?_eq_some_iff.mp e).1
        rwa [List.length_range] at this
    rw [List.getElem?_range hi] at hx
    cases hx
    exact h i ρ hi hp
  rw [List.length_map, List.length_range] at hp
  exact ⟨ρ', e, hp⟩
theorem lcGo_inv {own : List Nat} {body : D → M (Option D)} (P : Nat → En → Prop) (V : D → Prop) (all : List D) (h : ∀ (i : Nat) (x : D) (ρ : En), all[i]? = some x → P i ρ → ∃ y ρ', body x (wipeE ρ own) = .ok (some y) ρ' ∧ V y ∧ P (i + 1) ρ') :
    ∀ (items acc : List D) (i : Nat) (ρ : En), all.drop i = items → i ≤ all.length → P i ρ → acc.length = i → (∀ y ∈ acc, V y) → all.length ≤ 16000000 →
      ∃ ys ρ2, lcGo own body items acc ρ = .ok ys ρ2 ∧ ys.length = all.length ∧ (∀ y ∈ ys, V y) ∧ P all.length ρ2
  | [], acc, i, ρ, hd, hi, hp, ha, hv, hl => by
    have : all.length ≤ i := List.drop_eq_nil_iff.mp hd
    have : i = all.length := by omega
    subst this
    exact ⟨acc, ρ, rfl, ha, hv, hp⟩
  | x :: items, acc, i, ρ, hd, hi, hp, ha, hv, hl => by
    have hx : all[i]? = some x := by
      have := congrArg List.head? hd
      rw [List.head?_drop] at this
      exact this
    have hlt := (List.getElem?_eq_some_iff.mp hx).1
    obtain ⟨y, ρ', e, vy, hp'⟩ := h i x ρ hx hp
    have hsz : sz (acc.length + 1) = true := decide_eq_true (by omega)
    obtain ⟨ys, ρ2, e2, r⟩ := lcGo_inv P V all h items (acc ++ [y]) (i + 1) ρ' (by rw [← List.tail_drop, hd]; rfl) hlt hp' (by rw [List.length_append, ha]; rfl) (fun z hz => by
      rcases List.mem_append.mp hz with hz | hz
      · exact hv z hz
      · cases List.mem_singleton.mp hz
        exact vy) hl
    refine ⟨ys, ρ2, ?_, r⟩
    rw [← e2]
    show M.bnd (body x) _ (wipeE ρ own) = _
    rw [bnd_ap, e]
    dsimp only
    rw [if_pos hsz]
/-- [e for g in it], the rest of the slots may change -/
theorem lc_inv {Φ : Nat → Fn} {own : List Nat} {g : Tg} {it : CI} {c : CTs} {e : CE} {ρ ρ1 : En} {items : List D} (P : Nat → En → Prop) (V : D → Prop) (hI : evI Φ it ρ = .ok items ρ1) (hn : lendOf it = none) (hf : frozenAt ρ1 own = true) (hl : items.length ≤ 16000000) (h0 : P 0 ρ1)
    (h : ∀ (i : Nat) (x : D) (ρ : En), items[i]? = some x → P i ρ → ∃ y ρ', lcBody Φ g c e x (wipeE ρ own) = .ok (some y) ρ' ∧ V y ∧ P (i + 1) ρ') :
    ∃ ys ρ2, ys.length = items.length ∧ (∀ y ∈ ys, V y) ∧ P items.length ρ2 ∧ ev Φ (.lc own g it c e) ρ = .ok (.val (.lst ys)) (restore ρ1 own ρ2) := by
  obtain ⟨ys, ρ2, e2, h1, h2, h3⟩ := lcGo_inv (own := own) (body := lcBody Φ g c e) P V items h items [] 0 ρ1 rfl (Nat.zero_le _) h0 rfl (fun y hy => nomatch hy) hl
  refine ⟨ys, ρ2, h1, h2, h3, ?_⟩
  rw [lc_unf]
  unfold withIt
  rw [hn]
  dsimp only
  rw [bnd_ap, hI]
  dsimp only
  rw [if_pos hf, e2]
end Dv
end
section
set_option Elab.async false
set_option maxRecDepth 100000
set_option linter.all false
/-! What the laws share, no code named -/
namespace Dv.Law
open PySem Dv
local macro_rules | `(tactic| walk_at "ev") => `(tactic| simp only [↓evE, ↓evF, ↓evG, ↓evH, zipE, ↓bnd_ap, ↓ret_ap, ↓opt_some, ↓opt_none, ↓takeM_val, ↓storeM_val, ↓getM_val, ↓giveM_val, ↓arOf_val, ↓arOf_tmp,
  varM, getM, R.get, getSlot, takeM, storeM, giveM, arOf, getAllM, getAll, augM, setAt, asgT, asgTs, asgEach, boE, coE, szE, biE, bmE, mmE, mmR, trE, finE, exitE, atE, eqD_int, baE, ofE, blsOf_fm, intsOf_fm, blsOf_map, intsOf_map, strsOf_map, all_idm, any_idm, all_ttt, List.lookup_cons, List.lookup_nil, beq_self_eq_true, Nat.reduceBEq, eq_self, id_eq, List.all_cons, List.all_nil, callF, fsetM, fgt, svsOf, Ar.get, ownsOf, Dv.backTo, ibo,
  List.map_cons, List.map_nil, List.append_assoc, List.cons_append, List.nil_append, List.getElem?_cons_zero, List.getElem?_cons_succ, List.set_cons_zero, List.set_cons_succ, List.length_cons, List.length_nil, List.length_map, List.length_replicate, List.length_set, List.nodup_nil, List.nodup_cons, List.not_mem_nil, not_false_eq_true, Option.map_some, Option.bind_some, Bool.not_true, Bool.not_false, Bool.false_eq_true, if_true, if_false, decide_true, decide_false, Nat.zero_add, Nat.reduceAdd, Nat.reduceSub, Nat.reduceMul, Nat.reduceLT, Int.cast_ofNat_Int, Int.reducePow, Nat.reducePow, Int.reduceToNat, true_and, and_true, and_self, Bool.and_true, Bool.true_and, Bool.false_and, Bool.and_false, Bool.or_false, Bool.false_or, Bool.true_or, Bool.or_true, decide_not, Int.reduceEq, Int.reduceNe, Int.reduceLT, Int.reduceLE, Int.reduceAdd, Int.reduceSub, Int.reduceMul, Int.reduceNeg, Int.reduceAbs, Int.natAbs_neg])
local macro_rules | `(tactic| walk_at "evh") => `(tactic| simp only [↓evE, ↓evF, ↓evG, ↓evH, zipE, ↓bnd_ap, ↓ret_ap, ↓opt_some, ↓opt_none, ↓takeM_val, ↓storeM_val, ↓getM_val, ↓giveM_val, ↓arOf_val, ↓arOf_tmp,
  varM, getM, R.get, getSlot, takeM, storeM, giveM, arOf, getAllM, getAll, augM, setAt, asgT, asgTs, asgEach, boE, coE, szE, biE, bmE, mmE, mmR, trE, finE, exitE, atE, eqD_int, baE, ofE, blsOf_fm, intsOf_fm, blsOf_map, intsOf_map, strsOf_map, all_idm, any_idm, all_ttt, List.lookup_cons, List.lookup_nil, beq_self_eq_true, Nat.reduceBEq, eq_self, id_eq, List.all_cons, List.all_nil, callF, fsetM, fgt, svsOf, Ar.get, ownsOf, Dv.backTo, ibo,
  List.map_cons, List.map_nil, List.append_assoc, List.cons_append, List.nil_append, List.getElem?_cons_zero, List.getElem?_cons_succ, List.set_cons_zero, List.set_cons_succ, List.length_cons, List.length_nil, List.length_map, List.length_replicate, List.length_set, List.nodup_nil, List.nodup_cons, List.not_mem_nil, not_false_eq_true, Option.map_some, Option.bind_some, Bool.not_true, Bool.not_false, Bool.false_eq_true, if_true, if_false, decide_true, decide_false, Nat.zero_add, Nat.reduceAdd, Nat.reduceSub, Nat.reduceMul, Nat.reduceLT, Int.cast_ofNat_Int, Int.reducePow, Nat.reducePow, Int.reduceToNat, true_and, and_true, and_self, Bool.and_true, Bool.true_and, Bool.false_and, Bool.and_false, Bool.or_false, Bool.false_or, Bool.true_or, Bool.or_true, decide_not, Int.reduceEq, Int.reduceNe, Int.reduceLT, Int.reduceLE, Int.reduceAdd, Int.reduceSub, Int.reduceMul, Int.reduceNeg, Int.reduceAbs, Int.natAbs_neg, *])
local macro_rules | `(tactic| walk_at "lc") => `(tactic| (refine ⟨_, rfl, ?_⟩; exact ⟨rfl, rfl⟩))
structure E8 where
  a : Int
  b : Int
  c : Int
  d : Int
  k : Nat
  deriving DecidableEq
def E8.D (e : E8) : Dv.D := .tup [.int e.a, .int e.b, .int e.c, .int e.d, .int e.k]
def lowLoop : Nat → Int → Int → Int → Int → E8
  | 0, a, b, c, d => ⟨a, b, c, d, 0⟩
  | k + 1, a, b, c, d => if (a - c) % 2 = 0 ∧ (b - d) % 2 = 0 then lowLoop k ((b - d) / 2) ((a + c) / 2) ((b + d) / 2) ((c - a) / 2) else ⟨a, b, c, d, k + 1⟩
def lowest (a b c d : Int) (k : Nat) : E8 := if a = 0 ∧ b = 0 ∧ c = 0 ∧ d = 0 then ⟨0, 0, 0, 0, 0⟩ else lowLoop k a b c d
theorem low_loop (Φ : Nat → Fn) (k : Nat) : ∀ (N : Nat) (a b c d : Int), k < N →
    whlGo (evT Φ (.ands (.cons (.cmp .Gt (.var 4) (.lit (.int 0))) (.cons (.cmp .Eq (.bin .Mod (.bin .Sub (.var 0) (.var 2)) (.lit (.int 2))) (.lit (.int 0))) (.cons (.cmp .Eq (.bin .Mod (.bin .Sub (.var 1) (.var 3)) (.lit (.int 2))) (.lit (.int 0))) .nil)))))
      (evSs Φ 5 (.cons (.setT (.tp [(.nm 0), (.nm 1), (.nm 2), (.nm 3)]) (.tup (.cons (.bin .FloorDiv (.bin .Sub (.var 1) (.var 3)) (.lit (.int 2))) (.cons (.bin .FloorDiv (.bin .Add (.var 0) (.var 2)) (.lit (.int 2))) (.cons (.bin .FloorDiv (.bin .Add (.var 1) (.var 3)) (.lit (.int 2))) (.cons (.bin .FloorDiv (.bin .Sub (.var 2) (.var 0)) (.lit (.int 2))) .nil))))))
  (.cons (.aug 4 .Sub (.lit (.int 1)))
  .nil))) N [some (.dat (.int a)), some (.dat (.int b)), some (.dat (.int c)), some (.dat (.int d)), some (.dat (.int (k : Int)))] =
    .ok .nx [some (.dat (.int (lowLoop k a b c d).a)), some (.dat (.int (lowLoop k a b c d).b)), some (.dat (.int (lowLoop k a b c d).c)), some (.dat (.int (lowLoop k a b c d).d)), some (.dat (.int ((lowLoop k a b c d).k : Int)))] := by
  induction k with
  | zero =>
    intro N a b c d h
    obtain ⟨N, rfl⟩ : ∃ m, N = m + 1 := ⟨N - 1, by omega⟩
    refine (whl_false (ρ1 := [some (.dat (.int a)), some (.dat (.int b)), some (.dat (.int c)), some (.dat (.int d)), some (.dat (.int ((0 : Nat) : Int)))]) ?_).trans rfl
    have h1 : decide ((0 : Int) < ((0 : Nat) : Int)) = false := by decide
    walk_at "evh"
  | succ k ih =>
    intro N a b c d h
    obtain ⟨N, rfl⟩ : ∃ m, N = m + 1 := ⟨N - 1, by omega⟩
    have h1 : decide ((0 : Int) < ((k + 1 : Nat) : Int)) = true := decide_eq_true (by omega)
    by_cases h2 : (a - c) % 2 = 0
    · by_cases h3 : (b - d) % 2 = 0
      · refine (whl_true (ρ1 := [some (.dat (.int a)), some (.dat (.int b)), some (.dat (.int c)), some (.dat (.int d)), some (.dat (.int ((k + 1 : Nat) : Int)))]) (ρ2 := [some (.dat (.int ((b - d) / 2))), some (.dat (.int ((a + c) / 2))), some (.dat (.int ((b + d) / 2))), some (.dat (.int ((c - a) / 2))), some (.dat (.int (k : Int)))]) ?_ ?_).trans ?_
        · have e : decide ((0 : Int) < 2) = true := by decide
          walk_at "evh"
        · have e : (decide ((0 : Int) < 2) && decide ((2 : Int).natAbs < 1073741824)) = true := by decide
          have e2 : ((k + 1 : Nat) : Int) - 1 = k := by omega
          have e3 : sz 4 = true := by decide
          walk_at "evh"
        · rw [ih N _ _ _ _ (by omega)]
          simp only [lowLoop, h2, h3, and_self, if_true]
      · refine (whl_false (ρ1 := [some (.dat (.int a)), some (.dat (.int b)), some (.dat (.int c)), some (.dat (.int d)), some (.dat (.int ((k + 1 : Nat) : Int)))]) ?_).trans ?_
        · have e : decide ((0 : Int) < 2) = true := by decide
          walk_at "evh"
        · simp only [lowLoop, h2, h3, and_false, if_false]
    · refine (whl_false (ρ1 := [some (.dat (.int a)), some (.dat (.int b)), some (.dat (.int c)), some (.dat (.int d)), some (.dat (.int ((k + 1 : Nat) : Int)))]) ?_).trans ?_
      · have e : decide ((0 : Int) < 2) = true := by decide
        walk_at "evh"
      · simp only [lowLoop, h2, false_and, if_false]
def E8.low (e : E8) : Bool := decide (lowest e.a e.b e.c e.d e.k = e)
theorem deq_e8 (e f : E8) : deq e.D f.D = decide (e = f) := by
  obtain ⟨a, b, c, d, k⟩ := e
  obtain ⟨a', b', c', d', k'⟩ := f
  simp only [E8.D, deq, deqs, E8.mk.injEq, Bool.and_true, Bool.decide_and]
  congr 1
  congr 1
  congr 1
  congr 1
  rw [Bool.eq_iff_iff]
  simp
  omega
theorem pl_e8 (e : E8) : pl e.D = true ∧ dp e.D = 1 := ⟨rfl, rfl⟩
theorem eqD_e8 (e f : E8) : eqD e.D f.D = some (decide (e = f)) := by
  rw [eqD_ok (pl_e8 e).1 (pl_e8 f).1 (by rw [(pl_e8 e).2]; omega) (by rw [(pl_e8 f).2]; omega), deq_e8]
/-- small enough for each product -/
def Sm (i : Int) : Prop := i.natAbs < 2 ^ 490000
theorem Sm.mul {i j : Int} (h1 : Sm i) (h2 : Sm j) : mulOk i j = true := by
  unfold mulOk
  have l1 : i.natAbs.log2 < 490000 ∨ i.natAbs = 0 := by
    by_cases h : i.natAbs = 0
    · exact .inr h
    · exact .inl ((Nat.log2_lt h).mpr h1)
  have l2 : j.natAbs.log2 < 490000 ∨ j.natAbs = 0 := by
    by_cases h : j.natAbs = 0
    · exact .inr h
    · exact .inl ((Nat.log2_lt h).mpr h2)
  have z : Nat.log2 0 = 0 := by decide
  have : i.natAbs.log2 + j.natAbs.log2 < 1000000 := by
    rcases l1 with l1 | l1 <;> rcases l2 with l2 | l2 <;> (try rw [l1]) <;> (try rw [l2]) <;> (try rw [z]) <;> omega
  rw [decide_eq_true this, Bool.or_true]
def E8.Sm (e : E8) : Prop := Law.Sm e.a ∧ Law.Sm e.b ∧ Law.Sm e.c ∧ Law.Sm e.d ∧ e.k < 1000000000
theorem sm_small {i : Int} (h : i.natAbs < 2 ^ 64) : Sm i := Nat.lt_of_lt_of_le h (Nat.pow_le_pow_right (by decide) (by decide))
theorem shl_ok (m : Nat) (hm : m ≤ 100000) : bo .LShift (.int 1) (.int (m : Int)) = some (.dat (.int ((2 ^ m : Nat) : Int))) := by
  have e : Builtin.Int.intBits 1 = 1 := by decide
  show (if decide (0 ≤ (m : Int)) && decide (Builtin.Int.intBits 1 + (m : Int).natAbs ≤ 2 ^ 27) then some (FV.dat (.int (1 * 2 ^ (m : Int).toNat))) else none) = _
  rw [decide_eq_true (by omega), decide_eq_true (by rw [e]; omega), if_pos (by decide), Int.toNat_natCast, Int.one_mul]
  rfl

/-! ### eighths as numbers -/
def E8.q (e : E8) : Q4 := ⟨e.a, e.b, e.c, e.d⟩
def Q4.e8 (x : Q4) (k : Nat) : E8 := ⟨x.a, x.b, x.c, x.d, k⟩
def low (x : Q4) (k : Nat) : E8 := lowest x.a x.b x.c x.d k
theorem e8_q (e : E8) : e.q.e8 e.k = e := rfl
theorem q_e8 (x : Q4) (k : Nat) : (x.e8 k).q = x := rfl
def lowQ (k : Nat) (x : Q4) : E8 := lowLoop k x.a x.b x.c x.d
theorem lowQ_zero (x : Q4) : lowQ 0 x = x.e8 0 := rfl
theorem lowQ_succ (k : Nat) (x : Q4) : lowQ (k + 1) x = if x.Even then lowQ k x.half else x.e8 (k + 1) := rfl
theorem lowQ_eqv : ∀ (k : Nat) (x : Q4), Q4.Eqv (lowQ k x).q (lowQ k x).k x k
  | 0, x => rfl
  | k + 1, x => by
    rw [lowQ_succ]
    split
    · rename_i h
      have ih := lowQ_eqv k x.half
      unfold Q4.Eqv at *
      rw [Q4.rts_succ, ih, ← Q4.rts_rt, Q4.rt_half h]
    · rfl
theorem lowQ_norm : ∀ (k : Nat) (x : Q4), (lowQ k x).k = 0 ∨ ¬ (lowQ k x).q.Even
  | 0, x => .inl rfl
  | k + 1, x => by
    rw [lowQ_succ]
    split
    · exact lowQ_norm k x.half
    · rename_i h
      exact .inr h
theorem lowQ_le : ∀ (k : Nat) (x : Q4), (lowQ k x).k ≤ k
  | 0, x => Nat.le_refl 0
  | k + 1, x => by
    rw [lowQ_succ]
    split
    · exact Nat.le_succ_of_le (lowQ_le k x.half)
    · exact Nat.le_refl _
theorem low_zero (k : Nat) : low Q4.zero k = ⟨0, 0, 0, 0, 0⟩ := rfl
theorem zero_iff (x : Q4) : (x.a = 0 ∧ x.b = 0 ∧ x.c = 0 ∧ x.d = 0) ↔ x = Q4.zero := by
  refine ⟨fun ⟨h1, h2, h3, h4⟩ => Q4.ext' h1 h2 h3 h4, fun h => by rw [h]; exact ⟨rfl, rfl, rfl, rfl⟩⟩
theorem low_ne {x : Q4} (h : x ≠ Q4.zero) (k : Nat) : low x k = lowQ k x := if_neg fun z => h ((zero_iff x).mp z)
theorem low_eqv (x : Q4) (k : Nat) : Q4.Eqv (low x k).q (low x k).k x k := by
  by_cases h : x = Q4.zero
  · subst h
    rw [low_zero]
    unfold Q4.Eqv
    rw [show E8.q ⟨0, 0, 0, 0, 0⟩ = Q4.zero from rfl, Q4.rts_zero, Q4.rts_zero]
  · rw [low_ne h]
    exact lowQ_eqv k x
theorem low_le (x : Q4) (k : Nat) : (low x k).k ≤ k := by
  by_cases h : x = Q4.zero
  · subst h
    exact Nat.zero_le _
  · rw [low_ne h]
    exact lowQ_le k x
/-- told with the least root -/
def Norm (e : E8) : Prop := (e.q = Q4.zero → e.k = 0) ∧ (e.k = 0 ∨ ¬ e.q.Even)
theorem norm_low {e : E8} (h : Norm e) : lowest e.a e.b e.c e.d e.k = e := by
  show low e.q e.k = e
  obtain ⟨h1, h2⟩ := h
  by_cases hz : e.q = Q4.zero
  · have e1 := h1 hz
    rw [hz, low_zero]
    obtain ⟨a, b, c, d, k⟩ := e
    have : Q4.mk a b c d = Q4.mk 0 0 0 0 := hz
    cases this
    cases (show k = 0 from e1)
    rfl
  · rw [low_ne hz]
    cases hk : e.k with
    | zero =>
      rw [lowQ_zero, ← hk]
      rfl
    | succ k =>
      have h3 : ¬ e.q.Even := by
        rcases h2 with h | h
        · rw [hk] at h
          cases h
        · exact h
      rw [lowQ_succ, if_neg h3, ← hk]
      rfl
theorem low_norm (x : Q4) (k : Nat) : Norm (low x k) := by
  by_cases h : x = Q4.zero
  · subst h
    exact ⟨fun _ => rfl, .inl rfl⟩
  · rw [low_ne h]
    refine ⟨fun hz => ?_, lowQ_norm k x⟩
    have := lowQ_eqv k x
    unfold Q4.Eqv at this
    rw [hz, Q4.rts_zero] at this
    exact absurd (Q4.rts_inj _ ((Q4.rts_zero _).trans this)).symm h
theorem low_low (x : Q4) (k : Nat) : lowest (low x k).a (low x k).b (low x k).c (low x k).d (low x k).k = low x k := norm_low (low_norm x k)
theorem norm_conj {e : E8} (h : Norm e) : Norm (e.q.conj.e8 e.k) := by
  refine ⟨fun hz => h.1 ?_, h.2.imp id fun h2 h3 => h2 ?_⟩
  · have h0 : e.q.conj = Q4.zero := hz
    simp only [Q4.conj, Q4.zero, Q4.mk.injEq] at h0
    apply Q4.ext' <;> simp only [Q4.zero] <;> omega
  · have h3 : e.q.conj.Even := h3
    unfold Q4.Even Q4.conj at *
    dsimp only at h3
    omega
theorem norm_tw {x : Q4} {k : Nat} (h : Norm (x.e8 k)) : Norm (x.tw.e8 k) := by
  refine ⟨fun hz => h.1 ?_, h.2.imp id fun h2 h3 => h2 ?_⟩
  · have h0 : x.tw = Q4.zero := hz
    simp only [Q4.tw, Q4.zero, Q4.mk.injEq] at h0
    show x = Q4.zero
    apply Q4.ext' <;> simp only [Q4.zero] <;> omega
  · have h3 : x.tw.Even := h3
    show x.Even
    unfold Q4.Even Q4.tw at *
    dsimp only at h3
    omega
theorem norm_tws : ∀ (m : Nat) {x : Q4} {k : Nat}, Norm (x.e8 k) → Norm ((Q4.tws m x).e8 k)
  | 0, _, _, h => h
  | m + 1, x, k, h => norm_tws m (norm_tw h)
theorem norm_of_low {e : E8} (h : lowest e.a e.b e.c e.d e.k = e) : Norm e := by
  have := low_norm e.q e.k
  rw [show low e.q e.k = e from h] at this
  exact this

/-! ### the program's sums, products, turns -/
def Q4.D (x : Q4) : Dv.D := .tup [.int x.a, .int x.b, .int x.c, .int x.d]
theorem max_nat (i j : Nat) : (if (j : Int) > (i : Int) then (j : Int) else (i : Int)) = ((max i j : Nat) : Int) := by
  split <;> omega
/-! ### the program's product -/
def E8.at (e : E8) (i : Nat) : Int := [e.a, e.b, e.c, e.d].getD i 0
theorem e8_at (e : E8) {i : Nat} (hi : i < 4) : L2.atI [Dv.D.int e.a, .int e.b, .int e.c, .int e.d, .int (e.k : Int)] (i : Int) = some (.int (e.at i)) := by
  have : i = 0 ∨ i = 1 ∨ i = 2 ∨ i = 3 := by omega
  rcases this with rfl | rfl | rfl | rfl <;> rfl
theorem E8.Sm.at {e : E8} (h : e.Sm) (i : Nat) : Law.Sm (e.at i) := by
  obtain ⟨h1, h2, h3, h4, _⟩ := h
  match i with
  | 0 => exact h1
  | 1 => exact h2
  | 2 => exact h3
  | 3 => exact h4
  | i + 4 => exact sm_small (by show (0 : Int).natAbs < 2 ^ 64; decide)
def stepT (e g : E8) (i j : Nat) (f : List Int) : List Int := f.set ((i + j) % 4) (f.getD ((i + j) % 4) 0 + if i + j < 4 then e.at i * g.at j else -(e.at i * g.at j))
def rowT (e g : E8) (i : Nat) : Nat → List Int → List Int
  | 0, f => f
  | j + 1, f => stepT e g i j (rowT e g i j f)
def allT (e g : E8) : Nat → List Int → List Int
  | 0, f => f
  | i + 1, f => rowT e g i 4 (allT e g i f)
theorem stepT_len (e g : E8) (i j : Nat) (f : List Int) : (stepT e g i j f).length = f.length := List.length_set ..
theorem rowT_len (e g : E8) (i : Nat) : ∀ (j : Nat) (f : List Int), (rowT e g i j f).length = f.length
  | 0, f => rfl
  | j + 1, f => (stepT_len ..).trans (rowT_len e g i j f)
theorem allT_len (e g : E8) : ∀ (i : Nat) (f : List Int), (allT e g i f).length = f.length
  | 0, f => rfl
  | i + 1, f => (rowT_len ..).trans (allT_len e g i f)
theorem allT_mul (e g : E8) : allT e g 4 [0, 0, 0, 0] = [(Q4.mul e.q g.q).a, (Q4.mul e.q g.q).b, (Q4.mul e.q g.q).c, (Q4.mul e.q g.q).d] := by
  obtain ⟨a, b, c, d, k⟩ := e
  obtain ⟨a', b', c', d', k'⟩ := g
  simp only [allT, rowT, stepT, E8.at, Q4.mul, E8.q, List.getD, Nat.reduceAdd, Nat.reduceMod, Nat.reduceLT, if_true, if_false, List.getElem?_cons_zero, List.getElem?_cons_succ, List.set_cons_zero, List.set_cons_succ, Option.getD_some, List.cons.injEq, and_true]
  refine ⟨?_, ?_, ?_, ?_⟩ <;> omega
theorem ixN4 {m : Nat} (h : m < 4) : L2.ixN 4 (m : Int) = some m := by
  unfold L2.ixN
  rw [if_pos (by omega), if_pos (by omega)]
  rfl
theorem rng_lit (Φ : Nat → Fn) (m : Nat) (hm : m ≤ 1000000) (ρ : En) : evI Φ (.rng1 (.lit (.int (m : Int)))) ρ = .ok ((List.range m).map fun i : Nat => .int (i : Int)) ρ :=
  rng_nat (r := .val (.dat (.int (m : Int)))) (by walk_at "ev") rfl (by omega)
/-! ### draws -/
def nx (s : Int) : Int := (s * 48271 + 11) % 2147483647
theorem mulOk_r {i j : Int} (h : j.natAbs < 2 ^ 64) : mulOk i j = true := by
  unfold mulOk
  rw [decide_eq_true h]
  simp
theorem mulOk_l {i j : Int} (h : i.natAbs < 2 ^ 64) : mulOk i j = true := by
  unfold mulOk
  rw [decide_eq_true h]
  simp
/-! ### the law's own reckoning -/
def valD (x : Q4) (h : Nat) : Dv.D := .tup [x.D, .int (h : Int)]
def E8.vq (e : E8) : Q4 := Q4.rts (e.k % 2) e.q
def E8.vh (e : E8) : Nat := (e.k + 1) / 2
theorem val_eqv (e : E8) : Q4.Eqv e.vq (2 * e.vh) e.q e.k := by
  have h : 2 * e.vh = e.k + e.k % 2 := by unfold E8.vh; omega
  unfold E8.vq
  rw [h]
  exact Q4.eqv_up _ _ _
theorem deq_q4 (x y : Q4) : deq x.D y.D = decide (x = y) := by
  obtain ⟨a, b, c, d⟩ := x
  obtain ⟨a', b', c', d'⟩ := y
  show deqs [.int a, .int b, .int c, .int d] [.int a', .int b', .int c', .int d'] = _
  simp only [deqs, deq_int, Q4.mk.injEq, Bool.and_true, Bool.decide_and]
theorem pl_q4 (x : Q4) : pl x.D = true ∧ dp x.D = 1 := ⟨rfl, rfl⟩
theorem eqD_q4 (x y : Q4) : eqD x.D y.D = some (decide (x = y)) := by
  rw [eqD_ok (pl_q4 x).1 (pl_q4 y).1 (by rw [(pl_q4 x).2]; omega) (by rw [(pl_q4 y).2]; omega), deq_q4]
theorem q4_lc2 (Φ : Nat → Fn) (x : Q4) (a b t u : Option SV) (h : frozenAt [a, b, some (.dat x.D), t, u] [4] = true) (h2 : Ag [4] [a, b, some (.dat x.D), t, u] [a, b, some (.dat x.D), t, u]) :
    ev Φ (.lc [4] (.nm 4) (.slot 2) .nil (.bin .Mult (.lit (.int 2)) (.var 4))) [a, b, some (.dat x.D), t, u] = .ok (.val (.lst [.int (2 * x.a), .int (2 * x.b), .int (2 * x.c), .int (2 * x.d)])) [a, b, some (.dat x.D), t, u] := by
  have := lc_datM (Φ := Φ) (own := [4]) (g := .nm 4) (c := .nil) (e := .bin .Mult (.lit (.int 2)) (.var 4)) (ρ := [a, b, some (.dat x.D), t, u]) (fun i : Int => Dv.D.int i) (fun i => .int (2 * i)) [x.a, x.b, x.c, x.d] (i := 2) (d := x.D) rfl rfl h h2 (by simp) fun i hi => by
    have e2 : mulOk 2 i = true := mulOk_l (by decide)
    refine ⟨[a, b, some (.dat x.D), t, some (.dat (.int i))], ?_, rfl, rfl⟩
    rw [lcRun]
    simp only [wipeE, List.set_cons_zero, List.set_cons_succ]
    walk_at "evh"
  exact this
/-! ### the law's own product, turns, least form -/
def Q4.at (x : Q4) (i : Nat) : Int := [x.a, x.b, x.c, x.d].getD i 0
theorem q4_at (x : Q4) {i : Nat} (hi : i < 4) : L2.atI [Dv.D.int x.a, .int x.b, .int x.c, .int x.d] (i : Int) = some (.int (x.at i)) := by
  have : i = 0 ∨ i = 1 ∨ i = 2 ∨ i = 3 := by omega
  rcases this with rfl | rfl | rfl | rfl <;> rfl
def Q4.Sm (x : Q4) : Prop := Law.Sm x.a ∧ Law.Sm x.b ∧ Law.Sm x.c ∧ Law.Sm x.d
theorem Q4.Sm.at {x : Q4} (h : x.Sm) (i : Nat) : Law.Sm (x.at i) := by
  obtain ⟨h1, h2, h3, h4⟩ := h
  match i with
  | 0 => exact h1
  | 1 => exact h2
  | 2 => exact h3
  | 3 => exact h4
  | i + 4 => exact sm_small (by show (0 : Int).natAbs < 2 ^ 64; decide)
def stepL (x y : Q4) (i j : Nat) (f : List Int) : List Int := f.set (i + j) (f.getD (i + j) 0 + x.at i * y.at j)
def rowL (x y : Q4) (i : Nat) : Nat → List Int → List Int
  | 0, f => f
  | j + 1, f => stepL x y i j (rowL x y i j f)
def allL (x y : Q4) : Nat → List Int → List Int
  | 0, f => f
  | i + 1, f => rowL x y i 4 (allL x y i f)
theorem stepL_len (x y : Q4) (i j : Nat) (f : List Int) : (stepL x y i j f).length = f.length := List.length_set ..
theorem rowL_len (x y : Q4) (i : Nat) : ∀ (j : Nat) (f : List Int), (rowL x y i j f).length = f.length
  | 0, f => rfl
  | j + 1, f => (stepL_len ..).trans (rowL_len x y i j f)
theorem allL_len (x y : Q4) : ∀ (i : Nat) (f : List Int), (allL x y i f).length = f.length
  | 0, f => rfl
  | i + 1, f => (rowL_len ..).trans (allL_len x y i f)
theorem allL_mul (x y : Q4) : allL x y 4 [0, 0, 0, 0, 0, 0, 0] = [x.a * y.a, x.a * y.b + x.b * y.a, x.a * y.c + x.b * y.b + x.c * y.a, x.a * y.d + x.b * y.c + x.c * y.b + x.d * y.a, x.b * y.d + x.c * y.c + x.d * y.b, x.c * y.d + x.d * y.c, x.d * y.d] := by
  obtain ⟨a, b, c, d⟩ := x
  obtain ⟨a', b', c', d'⟩ := y
  simp only [allL, rowL, stepL, Q4.at, List.getD, Nat.reduceAdd, List.getElem?_cons_zero, List.getElem?_cons_succ, List.set_cons_zero, List.set_cons_succ, Option.getD_some, List.cons.injEq, and_true]
  refine ⟨?_, ?_, ?_, ?_, ?_, ?_, ?_⟩ <;> omega
theorem ixN7 {m : Nat} (h : m < 7) : L2.ixN 7 (m : Int) = some m := by
  unfold L2.ixN
  rw [if_pos (by omega), if_pos (by omega)]
  rfl
theorem half_rt (x : Q4) : x.half = ⟨x.rt.a / 2, x.rt.b / 2, x.rt.c / 2, x.rt.d / 2⟩ := rfl
theorem odd_list (x : Q4) : decide (([x.rt.a, x.rt.b, x.rt.c, x.rt.d].filter fun i => decide (i % 2 = 1)).map (fun _ => (1 : Int)) = []) = decide x.Even := by
  rw [decide_eq_decide, List.map_eq_nil_iff, List.filter_eq_nil_iff]
  simp only [List.mem_cons, List.not_mem_nil, or_false, decide_eq_true_eq, Q4.rt, Q4.Even]
  refine ⟨fun h => ?_, fun h i hi => ?_⟩
  · have h1 := h _ (.inl rfl)
    have h2 := h _ (.inr (.inl rfl))
    omega
  · rcases hi with rfl | rfl | rfl | rfl <;> omega
theorem sum_self (x y : Q4) (k : Nat) : Q4.sum x k y k = Q4.add x y := by
  unfold Q4.sum
  rw [Nat.max_self, Nat.sub_self]
  rfl
theorem tws7 (b : Int) : Q4.tws 7 ⟨b, 0, 0, 0⟩ = ⟨0, 0, 0, -b⟩ := by
  simp only [Q4.tws, Q4.tw, Int.neg_zero]
theorem tws6 (b : Int) : Q4.tws 6 ⟨b, 0, 0, 0⟩ = ⟨0, 0, -b, 0⟩ := by
  simp only [Q4.tws, Q4.tw, Int.neg_zero]
theorem tws5 (b : Int) : Q4.tws 5 ⟨b, 0, 0, 0⟩ = ⟨0, -b, 0, 0⟩ := by
  simp only [Q4.tws, Q4.tw, Int.neg_zero]
def mirAcc (x : Q4) : Nat → Q4
  | 0 => ⟨x.a, 0, 0, 0⟩
  | 1 => ⟨x.a, 0, 0, -x.b⟩
  | 2 => ⟨x.a, 0, -x.c, -x.b⟩
  | _ => ⟨x.a, -x.d, -x.c, -x.b⟩
/-! ### what the law draws -/
theorem nx_next (s m : Int) (hm : 0 < m) : 0 ≤ nx s / 7 % m ∧ nx s / 7 % m < m := ⟨Int.emod_nonneg _ (by omega), Int.emod_lt_of_pos _ hm⟩
theorem pow_ok : bo .Pow (.int 10) (.int 9) = some (.dat (.int 1000000000)) := by rfl
/-- some sixty figures at most -/
def Dr (i : Int) : Prop := i.natAbs < 2 ^ 256
theorem Dr.sm {i : Int} (h : Dr i) : Sm i := Nat.lt_of_lt_of_le h (Nat.pow_le_pow_right (by decide) (by decide))
def Q4.Bd (B : Nat) (x : Q4) : Prop := x.a.natAbs ≤ B ∧ x.b.natAbs ≤ B ∧ x.c.natAbs ≤ B ∧ x.d.natAbs ≤ B
theorem half_bd {B : Nat} {x : Q4} (h : x.Bd B) : x.half.Bd B := by
  obtain ⟨h1, h2, h3, h4⟩ := h
  refine ⟨?_, ?_, ?_, ?_⟩ <;> simp only [Q4.half] <;> omega
theorem rt_bd {B : Nat} {x : Q4} (h : x.Bd B) : x.rt.Bd (2 * B) := by
  obtain ⟨h1, h2, h3, h4⟩ := h
  refine ⟨?_, ?_, ?_, ?_⟩ <;> simp only [Q4.rt] <;> omega
theorem tws_bd {B : Nat} : ∀ (m : Nat) {x : Q4}, x.Bd B → (Q4.tws m x).Bd B
  | 0, _, h => h
  | m + 1, x, h => tws_bd m (by
    obtain ⟨h1, h2, h3, h4⟩ := h
    refine ⟨?_, ?_, ?_, ?_⟩ <;> simp only [Q4.tw] <;> omega)
theorem lowQ_bd {B : Nat} : ∀ (k : Nat) {x : Q4}, x.Bd B → (lowQ k x).q.Bd B
  | 0, _, h => h
  | k + 1, x, h => by
    rw [lowQ_succ]
    split
    · exact lowQ_bd k (half_bd h)
    · exact h
theorem low_bd {B : Nat} {x : Q4} (k : Nat) (h : x.Bd B) : (low x k).q.Bd B := by
  by_cases hz : x = Q4.zero
  · subst hz
    exact ⟨Nat.zero_le _, Nat.zero_le _, Nat.zero_le _, Nat.zero_le _⟩
  · rw [low_ne hz]
    exact lowQ_bd k h
theorem bd_mono {B C : Nat} {x : Q4} (h : x.Bd B) (hl : B ≤ C) : x.Bd C := ⟨Nat.le_trans h.1 hl, Nat.le_trans h.2.1 hl, Nat.le_trans h.2.2.1 hl, Nat.le_trans h.2.2.2 hl⟩
theorem bd_sm {B : Nat} {x : Q4} (h : x.Bd B) (hl : B < 2 ^ 490000) : x.Sm := ⟨Nat.lt_of_le_of_lt h.1 hl, Nat.lt_of_le_of_lt h.2.1 hl, Nat.lt_of_le_of_lt h.2.2.1 hl, Nat.lt_of_le_of_lt h.2.2.2 hl⟩
theorem big_lt : (2 : Nat) ^ 300 < 2 ^ 490000 := Nat.pow_lt_pow_right (by decide) (by decide)
/-- a drawn eighth -/
structure Drawn (e : E8) : Prop where
  norm : Norm e
  bd : e.q.Bd (2 ^ 256)
  k : e.k ≤ 6
theorem e8_sm {e : E8} {B : Nat} (h : e.q.Bd B) (hl : B < 2 ^ 490000) (hk : e.k < 1000000000) : e.Sm := ⟨(bd_sm h hl).1, (bd_sm h hl).2.1, (bd_sm h hl).2.2.1, (bd_sm h hl).2.2.2, hk⟩
theorem norm_unit (r : Nat) (hr : r < 8) (k : Nat) : Norm ((Q4.tws r ⟨1, 0, 0, 0⟩).e8 k) := by
  have h : Norm ((⟨1, 0, 0, 0⟩ : Q4).e8 k) := ⟨fun h => (by
    have : (⟨1, 0, 0, 0⟩ : Q4) = Q4.zero := h
    cases this), .inr fun h => by
    have h : (⟨1, 0, 0, 0⟩ : Q4).Even := h
    unfold Q4.Even at h
    dsimp only at h
    omega⟩
  exact norm_tws r h
/-! ### lengths -/
structure Len where
  p : Int
  q : Int
  k : Nat
  deriving DecidableEq
def Len.D (e : Len) : Dv.D := .tup [.int e.p, .int e.q, .int e.k]
def lowLen : Nat → Int → Int → Len
  | 0, p, q => ⟨p, q, 0⟩
  | k + 1, p, q => if p % 2 = 0 ∧ q % 2 = 0 then lowLen k (p / 2) (q / 2) else ⟨p, q, k + 1⟩
theorem lowLen_loop (Φ : Nat → Fn) (k : Nat) : ∀ (N : Nat) (p q : Int), k < N →
    whlGo (evT Φ (.ands (.cons (.cmp .Gt (.var 2) (.lit (.int 0))) (.cons (.cmp .Eq (.bin .Mod (.var 0) (.lit (.int 2))) (.lit (.int 0))) (.cons (.cmp .Eq (.bin .Mod (.var 1) (.lit (.int 2))) (.lit (.int 0))) .nil)))))
      (evSs Φ 3 (.cons (.set 0 (.bin .FloorDiv (.var 0) (.lit (.int 2)))) (.cons (.set 1 (.bin .FloorDiv (.var 1) (.lit (.int 2)))) (.cons (.aug 2 .Sub (.lit (.int 1))) .nil)))) N [some (.dat (.int p)), some (.dat (.int q)), some (.dat (.int (k : Int)))] =
    .ok .nx [some (.dat (.int (lowLen k p q).p)), some (.dat (.int (lowLen k p q).q)), some (.dat (.int ((lowLen k p q).k : Int)))] := by
  have c1 : decide ((0 : Int) < 2) = true := by decide
  have c2 : (decide ((0 : Int) < 2) && decide ((2 : Int).natAbs < 1073741824)) = true := by decide
  induction k with
  | zero =>
    intro N p q h
    obtain ⟨N, rfl⟩ : ∃ m, N = m + 1 := ⟨N - 1, by omega⟩
    refine (whl_false (ρ1 := [some (.dat (.int p)), some (.dat (.int q)), some (.dat (.int ((0 : Nat) : Int)))]) ?_).trans rfl
    walk_at "evh"
  | succ k ih =>
    intro N p q h
    obtain ⟨N, rfl⟩ : ∃ m, N = m + 1 := ⟨N - 1, by omega⟩
    have h1 : decide ((0 : Int) < ((k + 1 : Nat) : Int)) = true := decide_eq_true (by omega)
    have e2 : ((k + 1 : Nat) : Int) - 1 = k := by omega
    by_cases h2 : p % 2 = 0
    · by_cases h3 : q % 2 = 0
      · refine (whl_true (ρ1 := [some (.dat (.int p)), some (.dat (.int q)), some (.dat (.int ((k + 1 : Nat) : Int)))]) (ρ2 := [some (.dat (.int (p / 2))), some (.dat (.int (q / 2))), some (.dat (.int (k : Int)))]) ?_ ?_).trans ?_
        · walk_at "evh"
        · walk_at "evh"
        · rw [ih N _ _ (by omega)]
          simp only [lowLen, h2, h3, and_self, if_true]
      · refine (whl_false (ρ1 := [some (.dat (.int p)), some (.dat (.int q)), some (.dat (.int ((k + 1 : Nat) : Int)))]) ?_).trans ?_
        · walk_at "evh"
        · simp only [lowLen, h2, h3, and_false, if_false]
    · refine (whl_false (ρ1 := [some (.dat (.int p)), some (.dat (.int q)), some (.dat (.int ((k + 1 : Nat) : Int)))]) ?_).trans ?_
      · walk_at "evh"
      · simp only [lowLen, h2, false_and, if_false]
def square (e : E8) : Len := lowLen e.k (e.a * e.a + e.b * e.b + e.c * e.c + e.d * e.d) (e.a * e.b + e.b * e.c + e.c * e.d - e.d * e.a)
/-- small enough for shifts -/
def Len.Ok (l : Len) : Prop := Builtin.Int.intBits l.p ≤ 2 ^ 26 ∧ Builtin.Int.intBits l.q ≤ 2 ^ 26 ∧ l.k ≤ 2 ^ 26
def kmax (ls : List Len) : Nat := (ls.map (·.k)).foldl max 0
def lenSum (ls : List Len) : Len := lowLen (kmax ls) (ls.map fun l => l.p * 2 ^ (kmax ls - l.k)).sum (ls.map fun l => l.q * 2 ^ (kmax ls - l.k)).sum
theorem foldl_max_cast (a : Nat) : ∀ ks : List Nat, maxL (a : Int) (ks.map fun k : Nat => (k : Int)) = ((ks.foldl max a : Nat) : Int) := by
  intro ks
  unfold maxL
  induction ks generalizing a with
  | nil => rfl
  | cons k r ih =>
    rw [List.map_cons, List.foldl_cons, List.foldl_cons, ← ih]
    congr 1
    omega
theorem le_kmax {ls : List Len} {l : Len} (h : l ∈ ls) : l.k ≤ kmax ls := by
  have : ∀ (ks : List Nat) (a : Nat), a ≤ ks.foldl max a ∧ ∀ k ∈ ks, k ≤ ks.foldl max a := by
    intro ks
    induction ks with
    | nil => intro a; exact ⟨Nat.le_refl _, fun k z => nomatch z⟩
    | cons k r ih =>
      intro a
      obtain ⟨h1, h2⟩ := ih (max a k)
      rw [List.foldl_cons]
      refine ⟨by omega, fun x hx => ?_⟩
      rcases List.mem_cons.mp hx with rfl | hx
      · omega
      · exact h2 x hx
  exact (this _ 0).2 _ (List.mem_map.mpr ⟨l, h, rfl⟩)
theorem kmax_le {m : Nat} {ls : List Len} (h : ∀ l ∈ ls, l.k ≤ m) : kmax ls ≤ m := by
  have : ∀ (ks : List Nat) (a : Nat), a ≤ m → (∀ k ∈ ks, k ≤ m) → ks.foldl max a ≤ m := by
    intro ks
    induction ks with
    | nil => intro a h _; exact h
    | cons k r ih =>
      intro a h1 h2
      rw [List.foldl_cons]
      have := h2 k List.mem_cons_self
      exact ih _ (by omega) fun x hx => h2 x (List.mem_cons_of_mem _ hx)
  refine this _ 0 (Nat.zero_le _) fun k hk => ?_
  obtain ⟨l, hl, rfl⟩ := List.mem_map.mp hk
  exact h l hl
theorem maxD_ok (ls : List Len) : bi .maxD [.lst (ls.map fun l => .int (l.k : Int)), .int 0] = some (.dat (.int (kmax ls))) := by
  show (match intsOf (ls.map fun l => Dv.D.int (l.k : Int)) with
    | some (n :: ns) => some (FV.dat (.int (maxL n ns)))
    | some [] => some (FV.dat (.int 0))
    | none => none) = _
  rw [intsOf_map]
  cases ls with
  | nil => rfl
  | cons l r =>
    show some (FV.dat (.int (maxL (l.k : Int) (r.map fun l : Len => (l.k : Int))))) = _
    have := foldl_max_cast l.k (r.map (·.k))
    rw [List.map_map] at this
    have e : (r.map fun l : Len => (l.k : Int)) = r.map ((fun k : Nat => (k : Int)) ∘ Len.k) := rfl
    rw [e, this]
    unfold kmax
    rw [List.map_cons, List.foldl_cons, Nat.zero_max]
theorem shift_ok {ls : List Len} {l : Len} (h : ∀ l ∈ ls, l.Ok) (hm : l ∈ ls) (i : Int) (hi : i = l.p ∨ i = l.q) :
    bo .LShift (.int i) (.int ((kmax ls : Int) - (l.k : Int))) = some (.dat (.int (i * 2 ^ (kmax ls - l.k)))) := by
  have h1 := le_kmax hm
  have h2 : kmax ls ≤ 2 ^ 26 := kmax_le fun l hl => (h l hl).2.2
  obtain ⟨h3, h4, h5⟩ := h l hm
  have h6 : Builtin.Int.intBits i ≤ 2 ^ 26 := by rcases hi with rfl | rfl <;> assumption
  show (if decide (0 ≤ (kmax ls : Int) - (l.k : Int)) && decide (Builtin.Int.intBits i + ((kmax ls : Int) - (l.k : Int)).natAbs ≤ 2 ^ 27) then some (FV.dat (.int (i * 2 ^ ((kmax ls : Int) - (l.k : Int)).toNat))) else none) = _
  rw [decide_eq_true (by omega), decide_eq_true (by omega), if_pos (by decide)]
  have : ((kmax ls : Int) - (l.k : Int)).toNat = kmax ls - l.k := by omega
  rw [this]
/-! ### states -/
def sizes : List Nat := [2, 4, 8, 16, 32]
/-- what may be handed in -/
structure E8.Good (e : E8) : Prop where
  sm : e.Sm
  low : lowest e.a e.b e.c e.d e.k = e
def stD (es : List E8) : Dv.D := .ins 0 [.tup (es.map E8.D)]
theorem all_true {α : Type} {p : α → Bool} {l : List α} (h : ∀ x ∈ l, p x = true) : l.all p = true := List.all_eq_true.mpr h
theorem deq_of_size {m : Nat} (h : m ∈ sizes) : ([Dv.D.int 2, .int 4, .int 8, .int 16, .int 32].any fun z => deq z (.int (m : Int))) = true := by
  simp only [sizes, List.mem_cons, List.not_mem_nil, or_false] at h
  rcases h with rfl | rfl | rfl | rfl | rfl <;> rfl
theorem inD_size (m : Nat) : inD (.int (m : Int)) [Dv.D.int 2, .int 4, .int 8, .int 16, .int 32] = some (decide (m ∈ sizes)) := by
  rw [inD_ok rfl rfl (Nat.zero_le _) (by decide)]
  congr 1
  simp only [List.any_cons, List.any_nil, deq_int, Bool.or_false, ← Bool.decide_or, sizes, List.mem_cons, List.not_mem_nil, or_false]
  rw [decide_eq_decide]
  omega
theorem findIdx_size {m : Nat} (h : m ∈ sizes) : idxD (.int (m : Int)) [Dv.D.int 2, .int 4, .int 8, .int 16, .int 32] = sizes.findIdx? fun k => k == m := by
  rw [idxD_ok rfl rfl (Nat.zero_le _) (by decide)]
  simp only [sizes, List.mem_cons, List.not_mem_nil, or_false] at h
  rcases h with rfl | rfl | rfl | rfl | rfl <;> rfl
def wiresOf (m : Nat) : Nat := sizes.findIdx (fun k => k == m) + 1
/-! ### the law -/
theorem ss_step {Φ : Nat → Fn} {np : Nat} {s : CS} {ss : CSs} {ρ ρ' : En} (h : evS Φ np s ρ = .ok .nx ρ') : evSs Φ np (.cons s ss) ρ = evSs Φ np ss ρ' := by
  rw [(evG Φ np ρ).2.2.2.2.2.2.2.2.2.2.2.2.2.2.2.2.2.2.2.2 s ss, bnd_ap, h]
def Fz (t : Option SV) : Prop := frozenAt [t] [0] = true
theorem fz_dat (d : Dv.D) : Fz (some (.dat d)) := rfl
theorem pair4 {α : Type} {P : α → Prop} {a b c d : α} (h1 : P a) (h2 : P b) (h3 : P c) (h4 : P d) : ∀ x ∈ [a, b, c, d], P x := by
  intro x hx
  simp only [List.mem_cons, List.not_mem_nil, or_false] at hx
  rcases hx with rfl | rfl | rfl | rfl <;> assumption
/-! ### numbers as texts -/
def nS (i : Int) : Str := Str.ofString (toString i)
theorem strOk_of (s : String) : PyData.strOk (Str.ofString s) = true := by
  unfold PyData.strOk
  rw [← Array.all_toList, show (Str.ofString s).cps.toList = s.toList.map Char.toNat from TL.tl_ofString s, List.all_map]
  refine List.all_eq_true.mpr fun c _ => decide_eq_true ?_
  rcases c.valid with h | h
  · exact Nat.lt_trans h (by decide)
  · exact h.2
theorem strOk_app {x y : Str} (h1 : PyData.strOk x = true) (h2 : PyData.strOk y = true) : PyData.strOk (x ++ y) = true := by
  unfold PyData.strOk at *
  rw [← Array.all_toList] at *
  rw [show (x ++ y).cps.toList = x.cps.toList ++ y.cps.toList from TL.tl_append x y, List.all_append, h1, h2]
  rfl
theorem app_assoc (x y z : Str) : x ++ y ++ z = x ++ (y ++ z) := TL.ext_tl (by rw [TL.tl_append, TL.tl_append, TL.tl_append, TL.tl_append, List.append_assoc])
theorem app_len (x y : Str) : (x ++ y).length = x.length + y.length := by rw [TL.len_tl, TL.len_tl, TL.len_tl, TL.tl_append, List.length_append]
theorem eqD_str {x y : Str} (h1 : PyData.strOk x = true) (h2 : PyData.strOk y = true) : eqD (.str x) (.str y) = some (decide (x = y)) := by
  rw [eqD_ok (d := .str x) (e := .str y) h1 h2 (Nat.zero_le _) (Nat.zero_le _)]
  congr 1
theorem nS_neg (n : Nat) : nS (Int.negSucc n) = Str.ofString "-" ++ nS ((n + 1 : Nat) : Int) := by
  refine TL.ext_tl ?_
  rw [TL.tl_append]
  unfold nS
  rw [TL.tl_ofString, TL.tl_ofString, TL.tl_ofString, show toString (Int.negSucc n) = "-" ++ toString (n + 1) from rfl, String.toList_append, List.map_append]
  rfl
theorem nS_len {i : Int} {k : Nat} (hk : 0 < k) (h : i.natAbs < 10 ^ k) : (nS i).length ≤ k + 1 := by
  cases i with
  | ofNat n =>
    have := TL.numL_len (n := n) hk h
    rw [TL.len_tl]
    unfold nS
    rw [show TL.tl (Str.ofString (toString (Int.ofNat n))) = TL.numL n from TL.tl_num n]
    omega
  | negSucc n =>
    rw [nS_neg, app_len]
    have h' : n + 1 < 10 ^ k := h
    have := TL.numL_len (n := n + 1) hk h'
    rw [TL.len_tl (nS _)]
    unfold nS
    rw [TL.tl_num]
    have : (Str.ofString "-").length = 1 := by decide +kernel
    omega
theorem nS_ne (i : Int) : nS i ≠ Str.ofString "" := by
  intro h
  have h := congrArg TL.tl h
  rw [show TL.tl (Str.ofString "") = [] from by decide +kernel] at h
  cases i with
  | ofNat n => exact TL.numL_ne n ((TL.tl_num n).symm.trans h)
  | negSucc n =>
    rw [nS_neg, TL.tl_append] at h
    have := List.append_eq_nil_iff.mp h
    exact absurd this.1 (by decide +kernel)
theorem nS_ok (i : Int) : PyData.strOk (nS i) = true := strOk_of _
theorem bi_str {i : Int} (h : i.natAbs < 2 ^ 1900) : bi .str [.int i] = some (.dat (.str (nS i))) := by
  have : i.natAbs.log2 < 1920 := by
    by_cases hz : i.natAbs = 0
    · rw [hz]
      decide
    · exact Nat.lt_trans ((Nat.log2_lt hz).mpr h) (by decide)
  show (if decide (i.natAbs.log2 < 1920) then some (FV.dat (.str (toString i))) else none) = _
  rw [decide_eq_true this]
  rfl
theorem nS_sz {i : Int} (h : i.natAbs < 2 ^ 1900) : (nS i).length ≤ 2000 := Nat.le_trans (nS_len (k := 1000) (by decide) (Nat.lt_of_lt_of_le h (by decide +kernel))) (by decide)

/-! ### order of lengths -/
theorem sgn (p : Int) : (decide (0 ≤ p) = false ∧ decide (p ≤ 0) = true ∧ decide (0 < p) = false ∧ decide (p = 0) = false ∧ p < 0) ∨ p = 0 ∨ (decide (0 ≤ p) = true ∧ decide (p ≤ 0) = false ∧ decide (0 < p) = true ∧ decide (p = 0) = false ∧ 0 < p) := by
  rcases Int.lt_trichotomy p 0 with h | h | h
  · exact .inl ⟨decide_eq_false (by omega), decide_eq_true (by omega), decide_eq_false (by omega), decide_eq_false (by omega), h⟩
  · exact .inr (.inl h)
  · exact .inr (.inr ⟨decide_eq_true (by omega), decide_eq_false (by omega), decide_eq_true (by omega), decide_eq_false (by omega), h⟩)
def above (p q : Int) : Bool := if decide (0 ≤ p) && decide (0 ≤ q) then decide (0 < p) || decide (0 < q) else if decide (p ≤ 0) && decide (q ≤ 0) then false else if decide (0 < p) then decide (2 * q * q < p * p) else decide (p * p < 2 * q * q)
def lawLess (p q : Int) : Bool := if decide (p * p = 2 * q * q) then false else if decide (2 * q * q < p * p) then decide (0 < p) else decide (0 < q)
theorem irr_nat : ∀ (n p q : Nat), p ≤ n → p * p = 2 * (q * q) → p = 0
  | 0, p, q, h, _ => by omega
  | n + 1, p, q, h, e => by
    have hp : p % 2 = 0 := by
      rcases Nat.mod_two_eq_zero_or_one p with h | h
      · exact h
      · have : p * p % 2 = 1 := by rw [Nat.mul_mod, h]
        omega
    obtain ⟨r, rfl⟩ : ∃ r, p = 2 * r := ⟨p / 2, by omega⟩
    by_cases hr : r = 0
    · omega
    have e2 : q * q = 2 * (r * r) := by
      have : 2 * r * (2 * r) = 4 * (r * r) := by grind
      omega
    have hq : q ≤ n := by
      rcases Nat.lt_or_ge n q with h1 | h1
      · exfalso
        have h2 : 2 * r ≤ q := by omega
        have h3 : 2 * r * (2 * r) ≤ q * q := Nat.mul_le_mul h2 h2
        have h4 : 2 * r * (2 * r) = 4 * (r * r) := by grind
        have h5 : 0 < r * r := Nat.mul_pos (by omega) (by omega)
        omega
      · exact h1
    have := irr_nat n q r hq e2
    subst this
    have : r * r = 0 := by omega
    rcases Nat.mul_eq_zero.mp this with h | h <;> omega
theorem irr {p q : Int} (h : p * p = 2 * q * q) : p = 0 ∧ q = 0 := by
  have e : p.natAbs * p.natAbs = 2 * (q.natAbs * q.natAbs) := by
    have h1 := congrArg Int.natAbs h
    rw [Int.mul_assoc, Int.natAbs_mul, Int.natAbs_mul, Int.natAbs_mul] at h1
    exact h1
  have h0 := irr_nat _ _ _ (Nat.le_refl _) e
  rw [h0] at e
  have h1 : q.natAbs * q.natAbs = 0 := by omega
  have h2 : q.natAbs = 0 := by rcases Nat.mul_eq_zero.mp h1 with h | h <;> exact h
  omega
theorem sq_pos {p : Int} (h : p ≠ 0) : 0 < p * p := by
  rcases Int.lt_or_gt_of_ne h with h | h
  · exact Int.mul_pos_of_neg_of_neg h h
  · exact Int.mul_pos h h
theorem less_above (p q : Int) : lawLess p q = above p q := by
  unfold lawLess above
  have a1 : 2 * q * q = 2 * (q * q) := Int.mul_assoc ..
  have key : (p ≠ 0 ∨ q ≠ 0) → decide (p * p = 2 * q * q) = false := fun h => decide_eq_false fun e => by
    have := irr e
    omega
  rcases sgn p with ⟨h1, h2, h3, h4, h5⟩ | h5 | ⟨h1, h2, h3, h4, h5⟩ <;> rcases sgn q with ⟨g1, g2, g3, g4, g5⟩ | g5 | ⟨g1, g2, g3, g4, g5⟩
  · rw [h1, h2, h3, g1, g2, g3, key (by omega)]
    cases decide (2 * q * q < p * p) <;> rfl
  · subst g5
    rw [h1, h2, h3, key (by omega)]
    cases decide (2 * 0 * 0 < p * p) <;> rfl
  · rw [h1, h2, h3, g1, g2, g3, key (by omega)]
    have := sq_pos (show p ≠ 0 by omega)
    have hk := key (by omega)
    have hk := of_decide_eq_false hk
    by_cases l1 : 2 * q * q < p * p
    · rw [decide_eq_true l1, decide_eq_false (show ¬ p * p < 2 * q * q by omega)]
      rfl
    · rw [decide_eq_false l1, decide_eq_true (show p * p < 2 * q * q by omega)]
      rfl
  · subst h5
    rw [g1, g2, g3, key (by omega)]
    cases decide (2 * q * q < 0 * 0) <;> rfl
  · subst h5 g5
    rfl
  · subst h5
    have := sq_pos (show q ≠ 0 by omega)
    rw [g1, g2, g3, key (by omega), decide_eq_false (show ¬ 2 * q * q < 0 * 0 by omega)]
    rfl
  · rw [h1, h2, h3, g1, g2, g3, key (by omega)]
    have hk := of_decide_eq_false (key (by omega))
    by_cases l1 : 2 * q * q < p * p
    · rw [decide_eq_true l1]
      rfl
    · rw [decide_eq_false l1]
      rfl
  · subst g5
    have := sq_pos (show p ≠ 0 by omega)
    rw [h1, h2, h3, key (by omega), decide_eq_true (show 2 * 0 * 0 < p * p by omega)]
    rfl
  · rw [h1, h2, h3, g1, g2, g3, key (by omega)]
    cases decide (2 * q * q < p * p) <;> rfl
theorem mul_lt_iff {a b m : Int} (hm : 0 < m) : a * m < b * m ↔ a < b := ⟨fun h => Int.lt_of_mul_lt_mul_right h (by omega), fun h => Int.mul_lt_mul_of_pos_right h hm⟩
theorem above_scale (p q m : Int) (hm : 0 < m) : above (p * m) (q * m) = above p q := by
  have k1 : ∀ x : Int, decide (0 ≤ x * m) = decide (0 ≤ x) := fun x => by
    rw [decide_eq_decide]
    have := mul_lt_iff (a := x) (b := 0) hm
    rw [Int.zero_mul] at this
    omega
  have k2 : ∀ x : Int, decide (x * m ≤ 0) = decide (x ≤ 0) := fun x => by
    rw [decide_eq_decide]
    have := mul_lt_iff (a := 0) (b := x) hm
    rw [Int.zero_mul] at this
    omega
  have k3 : ∀ x : Int, decide (0 < x * m) = decide (0 < x) := fun x => by
    rw [decide_eq_decide]
    have := mul_lt_iff (a := 0) (b := x) hm
    rw [Int.zero_mul] at this
    omega
  have hmm : 0 < m * m := Int.mul_pos hm hm
  have e1 : 2 * (q * m) * (q * m) = 2 * q * q * (m * m) := by grind
  have e2 : p * m * (p * m) = p * p * (m * m) := by grind
  unfold above
  rw [k1, k1, k2, k2, k3, k3, e1, e2, decide_eq_decide.mpr (mul_lt_iff hmm), decide_eq_decide.mpr (mul_lt_iff hmm)]
/-- some hundreds of figures at most -/
structure Len.Bd (l : Len) : Prop where
  p : l.p.natAbs < 2 ^ 800
  q : l.q.natAbs < 2 ^ 800
  k : l.k ≤ 20
def lessL (a b : Len) : Bool := above (b.p * 2 ^ (max a.k b.k - b.k) - a.p * 2 ^ (max a.k b.k - a.k)) (b.q * 2 ^ (max a.k b.k - b.k) - a.q * 2 ^ (max a.k b.k - a.k))
theorem intBits_le {i : Int} {m : Nat} (h : i.natAbs < 2 ^ m) : Builtin.Int.intBits i ≤ m := by
  unfold Builtin.Int.intBits
  split
  · exact Nat.zero_le _
  · rename_i h0
    have hz : i.natAbs ≠ 0 := fun z => h0 (by have : i = 0 := by omega
                                              rw [this]; rfl)
    exact (Nat.log2_lt hz).mpr h
theorem shl_gen {i : Int} {a b : Nat} (h : b ≤ a) (ha : a ≤ 1000) (hi : i.natAbs < 2 ^ 1000) : bo .LShift (.int i) (.int ((a : Int) - (b : Int))) = some (.dat (.int (i * 2 ^ (a - b)))) := by
  have h1 := intBits_le hi
  show (if decide (0 ≤ (a : Int) - (b : Int)) && decide (Builtin.Int.intBits i + ((a : Int) - (b : Int)).natAbs ≤ 2 ^ 27) then some (FV.dat (.int (i * 2 ^ ((a : Int) - (b : Int)).toNat))) else none) = _
  rw [decide_eq_true (by omega), decide_eq_true (by omega), if_pos (by decide), show ((a : Int) - (b : Int)).toNat = a - b by omega]
theorem shl_bd {i : Int} {m : Nat} (h : i.natAbs < 2 ^ 800) (hm : m ≤ 20) : (i * 2 ^ m).natAbs < 2 ^ 820 := by
  rw [Int.natAbs_mul, Int.natAbs_pow]
  have h2 : (2 : Int).natAbs ^ m ≤ 2 ^ 20 := Nat.pow_le_pow_right (by decide) hm
  calc i.natAbs * (2 : Int).natAbs ^ m ≤ i.natAbs * 2 ^ 20 := Nat.mul_le_mul_left _ h2
    _ < 2 ^ 800 * 2 ^ 20 := Nat.mul_lt_mul_of_pos_right h (by decide)
    _ = 2 ^ 820 := by decide +kernel
theorem sm_of {i : Int} {m : Nat} (h : i.natAbs < 2 ^ m) (hm : m ≤ 490000) : Sm i := Nat.lt_of_lt_of_le h (Nat.pow_le_pow_right (by decide) hm)
theorem nil_app (x : Str) : Str.ofString "" ++ x = x := TL.ext_tl (by rw [TL.tl_append, show TL.tl (Str.ofString "") = [] from by decide +kernel]; rfl)
theorem app_nil (x : Str) : x ++ Str.ofString "" = x := TL.ext_tl (by rw [TL.tl_append, show TL.tl (Str.ofString "") = [] from by decide +kernel, List.append_nil])
def lenBase (l : Len) : Str := if decide (l.q = 0) then nS l.p else if decide (l.p = 0) then nS l.q ++ Str.ofString "r" else if decide (0 < l.q) then nS l.p ++ (Str.ofString "+" ++ (nS l.q ++ Str.ofString "r")) else nS l.p ++ (nS l.q ++ Str.ofString "r")
def lenText (l : Len) : Str := if decide (0 < l.k) then lenBase l ++ (Str.ofString "/" ++ nS ((2 ^ l.k : Nat) : Int)) else lenBase l
theorem lenText_ok (l : Len) : PyData.strOk (lenText l) = true := by
  have r := strOk_of "r"
  have pl := strOk_of "+"
  have sl := strOk_of "/"
  have b : PyData.strOk (lenBase l) = true := by
    unfold lenBase
    split
    · exact nS_ok _
    · split
      · exact strOk_app (nS_ok _) r
      · split
        · exact strOk_app (nS_ok _) (strOk_app pl (strOk_app (nS_ok _) r))
        · exact strOk_app (nS_ok _) (strOk_app (nS_ok _) r)
  unfold lenText
  split
  · exact strOk_app b (strOk_app sl (nS_ok _))
  · exact b
/-! ### sums of lengths, one after another -/
def sumP (K : Nat) (ls : List Len) : Int := (ls.map fun l => l.p * 2 ^ (K - l.k)).sum
def sumQ (K : Nat) (ls : List Len) : Int := (ls.map fun l => l.q * 2 ^ (K - l.k)).sum
theorem lenSum_eq (ls : List Len) : lenSum ls = lowLen (kmax ls) (sumP (kmax ls) ls) (sumQ (kmax ls) ls) := rfl
theorem kmax_app (ls : List Len) (l : Len) : kmax (ls ++ [l]) = max (kmax ls) l.k := by
  unfold kmax
  rw [List.map_append, List.foldl_append]
  rfl
theorem pow_split {k K K' : Nat} (h1 : k ≤ K) (h2 : K ≤ K') : (2 : Int) ^ (K' - k) = 2 ^ (K - k) * 2 ^ (K' - K) := by
  rw [← Int.pow_add]
  congr 1
  omega
theorem sumP_scale {K K' : Nat} (h2 : K ≤ K') : ∀ {ls : List Len}, (∀ l ∈ ls, l.k ≤ K) → sumP K' ls = sumP K ls * 2 ^ (K' - K)
  | [], _ => (Int.zero_mul _).symm
  | l :: r, h => by
    have ih := sumP_scale h2 (ls := r) fun x hx => h x (List.mem_cons_of_mem _ hx)
    unfold sumP at *
    rw [List.map_cons, List.sum_cons, List.map_cons, List.sum_cons, ih, pow_split (h l List.mem_cons_self) h2, Int.add_mul, Int.mul_assoc]
theorem sumQ_scale {K K' : Nat} (h2 : K ≤ K') : ∀ {ls : List Len}, (∀ l ∈ ls, l.k ≤ K) → sumQ K' ls = sumQ K ls * 2 ^ (K' - K)
  | [], _ => (Int.zero_mul _).symm
  | l :: r, h => by
    have ih := sumQ_scale h2 (ls := r) fun x hx => h x (List.mem_cons_of_mem _ hx)
    unfold sumQ at *
    rw [List.map_cons, List.sum_cons, List.map_cons, List.sum_cons, ih, pow_split (h l List.mem_cons_self) h2, Int.add_mul, Int.mul_assoc]
theorem sumP_app (K : Nat) (ls : List Len) (l : Len) : sumP K (ls ++ [l]) = sumP K ls + l.p * 2 ^ (K - l.k) := by
  unfold sumP
  rw [List.map_append, List.sum_append, List.map_singleton, List.sum_singleton]
theorem sumQ_app (K : Nat) (ls : List Len) (l : Len) : sumQ K (ls ++ [l]) = sumQ K ls + l.q * 2 ^ (K - l.k) := by
  unfold sumQ
  rw [List.map_append, List.sum_append, List.map_singleton, List.sum_singleton]
theorem sum_bd {α : Type} (f : α → Int) (B : Nat) : ∀ (ls : List α), (∀ l ∈ ls, (f l).natAbs ≤ B) → ((ls.map f).sum).natAbs ≤ ls.length * B
  | [], _ => by simp
  | l :: r, h => by
    have ih := sum_bd f B r fun x hx => h x (List.mem_cons_of_mem _ hx)
    have h0 := h l List.mem_cons_self
    rw [List.map_cons, List.sum_cons, List.length_cons, Nat.succ_mul]
    omega
theorem lowLen_scale : ∀ (k : Nat) (p q : Int), ∃ j : Nat, p = (lowLen k p q).p * 2 ^ j ∧ q = (lowLen k p q).q * 2 ^ j
  | 0, p, q => ⟨0, by simp [lowLen], by simp [lowLen]⟩
  | k + 1, p, q => by
    unfold lowLen
    split
    · rename_i h
      obtain ⟨j, h1, h2⟩ := lowLen_scale k (p / 2) (q / 2)
      refine ⟨j + 1, ?_, ?_⟩
      · rw [Int.pow_succ, ← Int.mul_assoc, ← h1]
        omega
      · rw [Int.pow_succ, ← Int.mul_assoc, ← h2]
        omega
    · exact ⟨0, by simp, by simp⟩
theorem lowLen_bd {B : Nat} : ∀ (k : Nat) (p q : Int), p.natAbs ≤ B → q.natAbs ≤ B → (lowLen k p q).p.natAbs ≤ B ∧ (lowLen k p q).q.natAbs ≤ B ∧ (lowLen k p q).k ≤ k
  | 0, p, q, h1, h2 => ⟨h1, h2, Nat.le_refl _⟩
  | k + 1, p, q, h1, h2 => by
    unfold lowLen
    split
    · obtain ⟨g1, g2, g3⟩ := lowLen_bd (B := B) k (p / 2) (q / 2) (by omega) (by omega)
      exact ⟨g1, g2, by omega⟩
    · exact ⟨h1, h2, Nat.le_refl _⟩
theorem lowLen_above (k : Nat) (p q : Int) : lawLess (lowLen k p q).p (lowLen k p q).q = above p q := by
  obtain ⟨j, h1, h2⟩ := lowLen_scale k p q
  have hj : (0 : Int) < 2 ^ j := Int.pow_pos (by decide)
  rw [less_above, ← above_scale _ _ _ hj, ← h1, ← h2]
theorem Len.Bd.ok {l : Len} (h : l.Bd) : l.Ok := ⟨Nat.le_trans (intBits_le h.p) (by decide), Nat.le_trans (intBits_le h.q) (by decide), Nat.le_trans h.k (by decide)⟩
/-- a square of drawn numbers -/
structure Len.Ds (l : Len) : Prop where
  p : l.p.natAbs ≤ 2 ^ 514
  q : l.q.natAbs ≤ 2 ^ 514
  k : l.k ≤ 6
theorem Len.Ds.bd {l : Len} (h : l.Ds) : l.Bd := ⟨Nat.lt_of_le_of_lt h.p (by decide +kernel), Nat.lt_of_le_of_lt h.q (by decide +kernel), Nat.le_trans h.k (by decide)⟩
theorem mul_bd {x y : Int} (h1 : x.natAbs ≤ 2 ^ 256) (h2 : y.natAbs ≤ 2 ^ 256) : (x * y).natAbs ≤ 2 ^ 512 := by
  rw [Int.natAbs_mul]
  exact Nat.le_trans (Nat.mul_le_mul h1 h2) (by decide +kernel)
theorem square_ds {e : E8} (h : Drawn e) : (square e).Ds := by
  obtain ⟨_, ⟨h1, h2, h3, h4⟩, hk⟩ := h
  have h1 : e.a.natAbs ≤ 2 ^ 256 := h1
  have h2 : e.b.natAbs ≤ 2 ^ 256 := h2
  have h3 : e.c.natAbs ≤ 2 ^ 256 := h3
  have h4 : e.d.natAbs ≤ 2 ^ 256 := h4
  have m1 := mul_bd h1 h1
  have m2 := mul_bd h2 h2
  have m3 := mul_bd h3 h3
  have m4 := mul_bd h4 h4
  have m5 := mul_bd h1 h2
  have m6 := mul_bd h2 h3
  have m7 := mul_bd h3 h4
  have m8 := mul_bd h4 h1
  have h514 : (2 : Nat) ^ 514 = 4 * 2 ^ 512 := by decide +kernel
  have l1 : (e.a * e.a + e.b * e.b + e.c * e.c + e.d * e.d).natAbs ≤ 2 ^ 514 := by omega
  have l2 : (e.a * e.b + e.b * e.c + e.c * e.d - e.d * e.a).natAbs ≤ 2 ^ 514 := by omega
  obtain ⟨g1, g2, g3⟩ := lowLen_bd e.k _ _ l1 l2
  exact ⟨g1, g2, Nat.le_trans g3 hk⟩
theorem sum_bd2 {ls : List Len} (h : ∀ l ∈ ls, l.Ds) (hl : ls.length ≤ 40) : (lenSum ls).Bd := by
  have hK : kmax ls ≤ 6 := kmax_le fun l hl => (h l hl).k
  have hb : ∀ (i : Int) (m : Nat), i.natAbs ≤ 2 ^ 514 → m ≤ 6 → (i * 2 ^ m).natAbs ≤ 2 ^ 520 := fun i m h1 h2 => by
    rw [Int.natAbs_mul, Int.natAbs_pow]
    refine Nat.le_trans (Nat.mul_le_mul h1 (Nat.pow_le_pow_right (by decide) h2)) (by decide +kernel)
  have s1 := sum_bd (fun l : Len => l.p * 2 ^ (kmax ls - l.k)) (2 ^ 520) ls fun l hl => hb _ _ (h l hl).p (by omega)
  have s2 := sum_bd (fun l : Len => l.q * 2 ^ (kmax ls - l.k)) (2 ^ 520) ls fun l hl => hb _ _ (h l hl).q (by omega)
  have t1 : ls.length * 2 ^ 520 ≤ 40 * 2 ^ 520 := Nat.mul_le_mul_right _ hl
  obtain ⟨g1, g2, g3⟩ := lowLen_bd (B := 40 * 2 ^ 520) (kmax ls) _ _ (Nat.le_trans s1 t1) (Nat.le_trans s2 t1)
  exact ⟨Nat.lt_of_le_of_lt g1 (by decide +kernel), Nat.lt_of_le_of_lt g2 (by decide +kernel), by have : (lenSum ls).k ≤ kmax ls := g3; omega⟩
theorem deq_len (e f : Len) : deq e.D f.D = decide (e = f) := by
  obtain ⟨a, b, c⟩ := e
  obtain ⟨a', b', c'⟩ := f
  show deqs [.int a, .int b, .int (c : Int)] [.int a', .int b', .int (c' : Int)] = _
  have hc : decide ((c : Int) = (c' : Int)) = decide (c = c') := decide_eq_decide.mpr (by omega)
  simp only [deqs, deq_int, hc, Len.mk.injEq, Bool.and_true, Bool.decide_and]
theorem eqD_len (e f : Len) : eqD e.D f.D = some (decide (e = f)) := by
  rw [eqD_ok (d := e.D) (e := f.D) rfl rfl (by show 1 ≤ 64; omega) (by show 1 ≤ 64; omega), deq_len]
/-! ### loops, the shape that a walk ends in -/
theorem for_countN {j : Nat} {body : M Fl} (P : Nat → En → Prop) (items : List Dv.D) (ρ : En) (h0 : P 0 ρ) (h : ∀ (i : Nat) (x : Dv.D) (ρ : En), items[i]? = some x → P i ρ → ∃ ρ2, body (ρ.set j (some (.dat x))) = .ok .nx ρ2 ∧ P (i + 1) ρ2) :
    ∃ ρ', forGo (.nm j) body items ρ = .ok .nx ρ' ∧ P items.length ρ' :=
  for_count P items ρ h0 fun i x ρ hx hp => by
    obtain ⟨ρ2, e, hp2⟩ := h i x ρ hx hp
    exact ⟨_, ρ2, .nx, rfl, e, .inl rfl, hp2⟩
theorem for_rangeN {j : Nat} {body : M Fl} (P : Nat → En → Prop) (m : Nat) (ρ : En) (h0 : P 0 ρ) (h : ∀ (i : Nat) (ρ : En), i < m → P i ρ → ∃ ρ2, body (ρ.set j (some (.dat (.int (i : Int))))) = .ok .nx ρ2 ∧ P (i + 1) ρ2) :
    ∃ ρ', forGo (.nm j) body ((List.range m).map fun i : Nat => .int (i : Int)) ρ = .ok .nx ρ' ∧ P m ρ' :=
  for_range P m ρ h0 fun i ρ hi hp => by
    obtain ⟨ρ2, e, hp2⟩ := h i ρ hi hp
    exact ⟨_, ρ2, .nx, rfl, e, .inl rfl, hp2⟩
theorem seqE {Φ : Nat → Fn} {np : Nat} {s : CS} {ss : CSs} {ρ ρ1 : En} {Q : En → Prop} (h : evS Φ np s ρ = .ok .nx ρ1) (h2 : ∃ ρ', evSs Φ np ss ρ1 = .ok .nx ρ' ∧ Q ρ') : ∃ ρ', evSs Φ np (.cons s ss) ρ = .ok .nx ρ' ∧ Q ρ' := by
  rw [ss_step h]
  exact h2
end Dv.Law
end
section
set_option Elab.async false
set_option maxRecDepth 100000
set_option linter.all false
/-! States by rows, a law's loop -/
namespace Dv.Law
open PySem Dv
local macro_rules | `(tactic| walk_at "ev") => `(tactic| simp only [↓evE, ↓evF, ↓evG, ↓evH, zipE, ↓bnd_ap, ↓ret_ap, ↓opt_some, ↓opt_none, ↓takeM_val, ↓storeM_val, ↓getM_val, ↓giveM_val, ↓arOf_val, ↓arOf_tmp,
  varM, getM, R.get, getSlot, takeM, storeM, giveM, arOf, getAllM, getAll, augM, setAt, asgT, asgTs, asgEach, boE, coE, szE, biE, bmE, mmE, mmR, trE, finE, exitE, atE, eqD_int, baE, ofE, blsOf_fm, intsOf_fm, blsOf_map, intsOf_map, strsOf_map, all_idm, any_idm, all_ttt, List.lookup_cons, List.lookup_nil, beq_self_eq_true, Nat.reduceBEq, eq_self, id_eq, List.all_cons, List.all_nil, callF, fsetM, fgt, svsOf, Ar.get, ownsOf, Dv.backTo, ibo,
  List.map_cons, List.map_nil, List.append_assoc, List.cons_append, List.nil_append, List.getElem?_cons_zero, List.getElem?_cons_succ, List.set_cons_zero, List.set_cons_succ, List.length_cons, List.length_nil, List.length_map, List.length_replicate, List.length_set, List.nodup_nil, List.nodup_cons, List.not_mem_nil, not_false_eq_true, Option.map_some, Option.bind_some, Bool.not_true, Bool.not_false, Bool.false_eq_true, if_true, if_false, decide_true, decide_false, Nat.zero_add, Nat.reduceAdd, Nat.reduceSub, Nat.reduceMul, Nat.reduceLT, Int.cast_ofNat_Int, Int.reducePow, Nat.reducePow, Int.reduceToNat, true_and, and_true, and_self, Bool.and_true, Bool.true_and, Bool.false_and, Bool.and_false, Bool.or_false, Bool.false_or, Bool.true_or, Bool.or_true, decide_not, Int.reduceEq, Int.reduceNe, Int.reduceLT, Int.reduceLE, Int.reduceAdd, Int.reduceSub, Int.reduceMul, Int.reduceNeg, Int.reduceAbs, Int.natAbs_neg])
local macro_rules | `(tactic| walk_at "evh") => `(tactic| simp only [↓evE, ↓evF, ↓evG, ↓evH, zipE, ↓bnd_ap, ↓ret_ap, ↓opt_some, ↓opt_none, ↓takeM_val, ↓storeM_val, ↓getM_val, ↓giveM_val, ↓arOf_val, ↓arOf_tmp,
  varM, getM, R.get, getSlot, takeM, storeM, giveM, arOf, getAllM, getAll, augM, setAt, asgT, asgTs, asgEach, boE, coE, szE, biE, bmE, mmE, mmR, trE, finE, exitE, atE, eqD_int, baE, ofE, blsOf_fm, intsOf_fm, blsOf_map, intsOf_map, strsOf_map, all_idm, any_idm, all_ttt, List.lookup_cons, List.lookup_nil, beq_self_eq_true, Nat.reduceBEq, eq_self, id_eq, List.all_cons, List.all_nil, callF, fsetM, fgt, svsOf, Ar.get, ownsOf, Dv.backTo, ibo,
  List.map_cons, List.map_nil, List.append_assoc, List.cons_append, List.nil_append, List.getElem?_cons_zero, List.getElem?_cons_succ, List.set_cons_zero, List.set_cons_succ, List.length_cons, List.length_nil, List.length_map, List.length_replicate, List.length_set, List.nodup_nil, List.nodup_cons, List.not_mem_nil, not_false_eq_true, Option.map_some, Option.bind_some, Bool.not_true, Bool.not_false, Bool.false_eq_true, if_true, if_false, decide_true, decide_false, Nat.zero_add, Nat.reduceAdd, Nat.reduceSub, Nat.reduceMul, Nat.reduceLT, Int.cast_ofNat_Int, Int.reducePow, Nat.reducePow, Int.reduceToNat, true_and, and_true, and_self, Bool.and_true, Bool.true_and, Bool.false_and, Bool.and_false, Bool.or_false, Bool.false_or, Bool.true_or, Bool.or_true, decide_not, Int.reduceEq, Int.reduceNe, Int.reduceLT, Int.reduceLE, Int.reduceAdd, Int.reduceSub, Int.reduceMul, Int.reduceNeg, Int.reduceAbs, Int.natAbs_neg, *])
local macro_rules | `(tactic| walk_at "lc") => `(tactic| (refine ⟨_, rfl, ?_⟩; exact ⟨rfl, rfl⟩))
/-! ### the law -/
def cNOUGHT : E8 := ⟨0, 0, 0, 0, 0⟩
def cONE : E8 := ⟨1, 0, 0, 0, 0⟩
def cROOT : E8 := ⟨1, 0, 0, 0, 1⟩
theorem good_nought : cNOUGHT.Good := ⟨⟨sm_small (by decide), sm_small (by decide), sm_small (by decide), sm_small (by decide), by decide⟩, by decide⟩
theorem good_one : cONE.Good := ⟨⟨sm_small (by decide), sm_small (by decide), sm_small (by decide), sm_small (by decide), by decide⟩, by decide⟩
theorem good_root : cROOT.Good := ⟨⟨sm_small (by decide), sm_small (by decide), sm_small (by decide), sm_small (by decide), by decide⟩, by decide⟩
theorem size_mem {m : Nat} (h1 : 1 ≤ m) (h5 : m ≤ 5) : 2 ^ m ∈ sizes := by
  have : m = 1 ∨ m = 2 ∨ m = 3 ∨ m = 4 ∨ m = 5 := by omega
  rcases this with rfl | rfl | rfl | rfl | rfl <;> decide
theorem pow_le {m : Nat} (h5 : m ≤ 5) : 2 ^ m ≤ 32 := by
  have : m = 0 ∨ m = 1 ∨ m = 2 ∨ m = 3 ∨ m = 4 ∨ m = 5 := by omega
  rcases this with rfl | rfl | rfl | rfl | rfl | rfl <;> decide
/-- the state at some rows -/
def rowSt (N : Nat) (rs : List Nat) (x : E8) : List E8 := (List.range N).map fun i => if i ∈ rs then x else cNOUGHT
def goodRows (m : Nat) (rs : List Nat) : Prop := rs.Pairwise (· < ·) ∧ ∀ r ∈ rs, r < 2 ^ m
def rowsD (rs : List Nat) : Dv.D := .tup (rs.map fun r : Nat => .int (r : Int))
theorem inp_lc (Φ : Nat → Fn) (m : Nat) (h5 : m ≤ 5) (rs : List Nat) (x : E8) :
    ev Φ (.lc [3] (.nm 3) (.rng1 (.bin .LShift (.lit (.int 1)) (.var 0))) .nil (.ite (.cmp .In (.var 3) (.var 1)) (.var 2) (.glo (Str.ofString "NOUGHT") (.tup [(.int 0), (.int 0), (.int 0), (.int 0), (.int 0)])))) [some (.dat (.int (m : Int))), some (.dat (rowsD rs)), some (.dat x.D), none] =
    .ok (.val (.lst ((rowSt (2 ^ m) rs x).map E8.D))) [some (.dat (.int (m : Int))), some (.dat (rowsD rs)), some (.dat x.D), none] := by
  have hp2 := pow_le h5
  have e6 := shl_ok m (by omega)
  rw [lc_itM (ρ1 := [some (.dat (.int (m : Int))), some (.dat (rowsD rs)), some (.dat x.D), none]) (fun i : Nat => .int (i : Int)) (fun i => (if i ∈ rs then x else cNOUGHT).D) (List.range (2 ^ m)) ?hI rfl rfl ⟨rfl, rfl⟩ (by rw [List.length_range]; omega) fun i hi => ?hb]
  · unfold rowSt
    rw [List.map_map]
    rfl
  case hI =>
    exact rng_nat (r := .val (.dat (.int ((2 ^ m : Nat) : Int)))) (by walk_at "evh") rfl (by omega)
  case hb =>
    have e8 := inD_nat i rs
    refine ⟨[some (.dat (.int (m : Int))), some (.dat (rowsD rs)), some (.dat x.D), some (.dat (.int (i : Int)))], ?_, rfl, rfl⟩
    rw [lcRun]
    simp only [wipeE, List.set_cons_zero, List.set_cons_succ]
    unfold rowsD
    by_cases h : i ∈ rs
    · rw [decide_eq_true h] at e8
      rw [if_pos h]
      walk_at "evh"
    · rw [decide_eq_false h] at e8
      rw [if_neg h]
      walk_at "evh"
      rfl
theorem rowSt_good {N : Nat} {rs : List Nat} {x : E8} (hx : x.Good) : ∀ e ∈ rowSt N rs x, e.Good := by
  intro e he
  obtain ⟨i, _, rfl⟩ := List.mem_map.mp he
  split
  · exact hx
  · exact good_nought
theorem rowSt_len (N : Nat) (rs : List Nat) (x : E8) : (rowSt N rs x).length = N := by
  unfold rowSt
  rw [List.length_map, List.length_range]
def chk1 : Bool := (List.range 6).all fun m => m == 0 || (List.range (2 ^ m)).all fun r => decide (lenSum ((rowSt (2 ^ m) [r] cONE).map square) = ⟨1, 0, 0⟩)
set_option maxHeartbeats 0 in
theorem chk1_ok : chk1 = true := by decide +kernel
theorem len_one {m r : Nat} (h1 : 1 ≤ m) (h5 : m ≤ 5) (hr : r < 2 ^ m) : lenSum ((rowSt (2 ^ m) [r] cONE).map square) = ⟨1, 0, 0⟩ := by
  have := List.all_eq_true.mp chk1_ok m (List.mem_range.mpr (by omega))
  rw [Bool.or_eq_true] at this
  rcases this with h | h
  · have := eq_of_beq h
    omega
  · exact of_decide_eq_true (List.all_eq_true.mp h r (List.mem_range.mpr hr))
theorem rowSt_get (N : Nat) (rs : List Nat) (x : E8) (i : Nat) : (rowSt N rs x)[i]? = if i < N then some (if i ∈ rs then x else cNOUGHT) else none := by
  unfold rowSt
  rw [List.getElem?_map]
  by_cases h : i < N
  · rw [List.getElem?_range h, if_pos h]
    rfl
  · rw [List.getElem?_eq_none (by rw [List.length_range]; omega), if_neg h]
    rfl
theorem rowSt_one {N r : Nat} (hr : r < N) (x : E8) : rowSt N [r] x = (List.replicate (N) cNOUGHT).set r x := by
  refine List.ext_getElem? fun i => ?_
  rw [rowSt_get, List.getElem?_set, List.getElem?_replicate, List.length_replicate]
  by_cases h : r = i
  · subst h
    simp [hr]
  · rw [if_neg h, if_neg (show ¬ i ∈ [r] by simpa using Ne.symm h)]
theorem rowSt_two {N r s : Nat} (hr : r < N) (hs : s < N) (x : E8) : rowSt N [r, s] x = ((List.replicate (N) cNOUGHT).set r x).set s x := by
  refine List.ext_getElem? fun i => ?_
  rw [rowSt_get, List.getElem?_set, List.getElem?_set, List.getElem?_replicate, List.length_set, List.length_replicate]
  by_cases h' : s = i
  · subst h'
    simp [hs]
  · rw [if_neg h']
    by_cases h : r = i
    · subst h
      simp [hr]
    · rw [if_neg h, if_neg (show ¬ i ∈ [r, s] by simp; omega)]
theorem rowSt_sq {N : Nat} {rs : List Nat} {x : E8} (hx : x = cONE ∨ x = cROOT) : ∀ e ∈ rowSt N rs x, (square e).Ok := by
  intro e he
  obtain ⟨i, _, rfl⟩ := List.mem_map.mp he
  split
  · rcases hx with rfl | rfl <;> exact ⟨by decide, by decide, by decide⟩
  · exact ⟨by decide, by decide, by decide⟩
theorem flat_rep (x : Dv.D) : ∀ N : Nat, (List.replicate N [x]).flatten = List.replicate N x
  | 0 => rfl
  | N + 1 => by rw [List.replicate_succ, List.replicate_succ, List.flatten_cons, flat_rep x N]; rfl
theorem mulL (N : Nat) (hN : N ≤ 32) : bo .Mult (.lst [.tup [.int 0, .int 0, .int 0, .int 0, .int 0]]) (.int (N : Int)) = some (.lst ((List.replicate N cNOUGHT).map E8.D)) := by
  have e1 : sz ([Dv.D.tup [.int 0, .int 0, .int 0, .int 0, .int 0]].length * N) = true := decide_eq_true (by simp; omega)
  have e2 : decide ((N : Int).natAbs < 2 ^ 63) = true := decide_eq_true (by omega)
  have e3 : E8.D cNOUGHT = .tup [.int 0, .int 0, .int 0, .int 0, .int 0] := rfl
  simp only [boE, Int.toNat_natCast, e1, e2, Bool.and_self, if_true, List.map_replicate, flat_rep, e3]
theorem e8_eq (l m : List E8) : eqD (.lst (l.map E8.D)) (.lst (m.map E8.D)) = some (decide (l = m)) := eqD_lst (fun e => (pl_e8 e).1) (fun e => by rw [(pl_e8 e).2]; omega) deq_e8 l m

/-! ### a law's outer loop -/
theorem law_loop {code : Nat → Option CF} {id n N M : Nat} {it : CI} {body : CSs} {sc : Dv.D} (hc : code id = some ⟨1, N, [], .cons (.for_ (.nm 1) it body) (.cons (.ret (.lit (.bl true))) .nil)⟩) (hn : lendOf it = none)
    (hI : evI (phi code n) it (some (.dat sc) :: List.replicate (N - 1) none) = .ok ((List.range M).map fun i : Nat => .int (i : Int)) (some (.dat sc) :: List.replicate (N - 1) none)) (I : En → Prop)
    (h0 : I (some (.dat sc) :: List.replicate (N - 1) none)) (h : ∀ (k : Nat) (ρ : En), k < M → I ρ → ∃ ρ2, evSs (phi code n) 1 body (ρ.set 1 (some (.dat (.int (k : Int))))) = .ok .nx ρ2 ∧ I ρ2) :
    phi code (n + 1) id [.dat sc] = .ok (.dat (.bl true)) [.dat sc] := by
  rw [phi_run [.dat sc] (some (.dat sc) :: List.replicate (N - 1) none) hc rfl rfl rfl rfl]
  obtain ⟨ρ', e1, _⟩ := for_rangeN (j := 1) (body := evSs (phi code n) 1 body) (fun _ ρ => I ρ) M (some (.dat sc) :: List.replicate (N - 1) none) h0 fun i ρ hi hp => h i ρ hi hp
  have e3 := for_it (np := 1) (g := .nm 1) (b := body) hI hn
  rw [e1] at e3
  show fin _ _ (evSs (phi code n) 1 (.cons (.for_ (.nm 1) it body) (.cons (.ret (.lit (.bl true))) .nil)) _) = _
  rw [ss_step e3]
  clear e1 e3 h h0 hI
  walk_at "evh"
theorem rng_len {Φ : Nat → Fn} {sc : List Dv.D} {r : En} (hl : sc.length ≤ 63) : evI Φ (.rng1 (.bc .len (.cons (.var 0) .nil))) (some (.dat (.scr sc)) :: r) = .ok ((List.range sc.length).map fun i : Nat => .int (i : Int)) (some (.dat (.scr sc)) :: r) :=
  rng_nat (r := .val (.dat (.int (sc.length : Nat)))) (by walk_at "evh") rfl (by omega)
theorem maps_of {α : Type} {P : α → Prop} (f : α → Dv.D) : ∀ ys : List Dv.D, (∀ y ∈ ys, ∃ x, P x ∧ y = f x) → ∃ xs : List α, ys = xs.map f ∧ ∀ x ∈ xs, P x
  | [], _ => ⟨[], rfl, fun _ h => nomatch h⟩
  | y :: r, h => by
    obtain ⟨x, hx, rfl⟩ := h y List.mem_cons_self
    obtain ⟨xs, rfl, hp⟩ := maps_of f r fun z hz => h z (List.mem_cons_of_mem _ hz)
    exact ⟨x :: xs, rfl, fun z hz => (List.mem_cons.mp hz).elim (fun e => e ▸ hx) (hp z)⟩
theorem Drawn.good {e : E8} (h : Drawn e) : e.Good := ⟨e8_sm h.bd (Nat.pow_lt_pow_right (by decide) (by decide)) (by have := h.k; omega), norm_low h.norm⟩
theorem drawn_nought : Drawn cNOUGHT := ⟨⟨fun _ => rfl, .inl rfl⟩, ⟨Nat.zero_le _, Nat.zero_le _, Nat.zero_le _, Nat.zero_le _⟩, Nat.zero_le _⟩
theorem drawn_one : Drawn cONE := ⟨norm_unit 0 (by decide) 0, ⟨by decide, by decide, by decide, by decide⟩, Nat.zero_le _⟩
theorem ixNn {N r : Nat} (hr : r < N) : L2.ixN N (r : Int) = some r := by
  unfold L2.ixN
  rw [if_pos (by omega), if_pos (by omega)]
  rfl
theorem mem_set {α : Type} {P : α → Prop} {l : List α} {i : Nat} {x : α} (h : ∀ y ∈ l, P y) (hx : P x) : ∀ y ∈ l.set i x, P y := fun y hy => by
  rcases List.mem_or_eq_of_mem_set hy with h1 | h1
  · exact h y h1
  · exact h1 ▸ hx
theorem mem_rep {α : Type} {P : α → Prop} {N : Nat} {x : α} (hx : P x) : ∀ y ∈ List.replicate N x, P y := fun y hy => (List.mem_replicate.mp hy).2 ▸ hx

/-! ### cuts -/
theorem cut1 (xs : List Dv.D) : cutD xs (some 1) none = xs.drop 1 := by
  unfold cutD
  rw [HT.sIx_none, show HT.sIx xs.length 0 (some 1) = min 1 xs.length from HT.sIx_nat _ _ 1]
  cases xs with
  | nil => rfl
  | cons x r =>
    rw [show min 1 (x :: r).length = 1 by rw [List.length_cons]; omega, List.take_of_length_le (by rw [List.length_drop]; omega)]
theorem cutL (xs : List Dv.D) : cutD xs none (some (-1)) = xs.take (xs.length - 1) := by
  unfold cutD
  rw [HT.sIx_none]
  show (xs.drop 0).take ((if (-1 : Int) < 0 then ((-1 : Int) + (xs.length : Int)).toNat else min (-1 : Int).toNat xs.length) - 0) = _
  rw [if_pos (by decide), List.drop_zero, show ((-1 : Int) + (xs.length : Int)).toNat - 0 = xs.length - 1 by omega]
end Dv.Law
end
section
set_option Elab.async false
set_option maxRecDepth 100000
set_option linter.all false
/-! One form for one number; inner numbers, turns; loops that give back -/
namespace Dv.Law
open PySem Dv
local macro_rules | `(tactic| walk_at "ev") => `(tactic| simp only [↓evE, ↓evF, ↓evG, ↓evH, zipE, ↓bnd_ap, ↓ret_ap, ↓opt_some, ↓opt_none, ↓takeM_val, ↓storeM_val, ↓getM_val, ↓giveM_val, ↓arOf_val, ↓arOf_tmp,
  varM, getM, R.get, getSlot, takeM, storeM, giveM, arOf, getAllM, getAll, augM, setAt, asgT, asgTs, asgEach, boE, coE, szE, biE, bmE, mmE, mmR, trE, finE, exitE, atE, eqD_int, baE, ofE, blsOf_fm, intsOf_fm, blsOf_map, intsOf_map, strsOf_map, all_idm, any_idm, all_ttt, List.lookup_cons, List.lookup_nil, beq_self_eq_true, Nat.reduceBEq, eq_self, id_eq, List.all_cons, List.all_nil, callF, fsetM, fgt, svsOf, Ar.get, ownsOf, Dv.backTo, ibo, makeF,
  List.map_cons, List.map_nil, List.append_assoc, List.cons_append, List.nil_append, List.getElem?_cons_zero, List.getElem?_cons_succ, List.set_cons_zero, List.set_cons_succ, List.length_cons, List.length_nil, List.length_map, List.length_replicate, List.length_set, List.nodup_nil, List.nodup_cons, List.not_mem_nil, List.mem_cons, or_false, Nat.reduceEqDiff, not_false_eq_true, Option.map_some, Option.bind_some, Bool.not_true, Bool.not_false, Bool.false_eq_true, if_true, if_false, decide_true, decide_false, Nat.zero_add, Nat.reduceAdd, Nat.reduceSub, Nat.reduceMul, Nat.reduceLT, Int.cast_ofNat_Int, Int.reducePow, Nat.reducePow, Int.reduceToNat, true_and, and_true, and_self, Bool.and_true, Bool.true_and, Bool.false_and, Bool.and_false, Bool.or_false, Bool.false_or, Bool.true_or, Bool.or_true, decide_not, Int.reduceEq, Int.reduceNe, Int.reduceLT, Int.reduceLE, Int.reduceAdd, Int.reduceSub, Int.reduceMul, Int.reduceNeg, Int.reduceAbs, Int.natAbs_neg])
local macro_rules | `(tactic| walk_at "evh") => `(tactic| simp only [↓evE, ↓evF, ↓evG, ↓evH, zipE, ↓bnd_ap, ↓ret_ap, ↓opt_some, ↓opt_none, ↓takeM_val, ↓storeM_val, ↓getM_val, ↓giveM_val, ↓arOf_val, ↓arOf_tmp,
  varM, getM, R.get, getSlot, takeM, storeM, giveM, arOf, getAllM, getAll, augM, setAt, asgT, asgTs, asgEach, boE, coE, szE, biE, bmE, mmE, mmR, trE, finE, exitE, atE, eqD_int, baE, ofE, blsOf_fm, intsOf_fm, blsOf_map, intsOf_map, strsOf_map, all_idm, any_idm, all_ttt, List.lookup_cons, List.lookup_nil, beq_self_eq_true, Nat.reduceBEq, eq_self, id_eq, List.all_cons, List.all_nil, callF, fsetM, fgt, svsOf, Ar.get, ownsOf, Dv.backTo, ibo, makeF,
  List.map_cons, List.map_nil, List.append_assoc, List.cons_append, List.nil_append, List.getElem?_cons_zero, List.getElem?_cons_succ, List.set_cons_zero, List.set_cons_succ, List.length_cons, List.length_nil, List.length_map, List.length_replicate, List.length_set, List.nodup_nil, List.nodup_cons, List.not_mem_nil, List.mem_cons, or_false, Nat.reduceEqDiff, not_false_eq_true, Option.map_some, Option.bind_some, Bool.not_true, Bool.not_false, Bool.false_eq_true, if_true, if_false, decide_true, decide_false, Nat.zero_add, Nat.reduceAdd, Nat.reduceSub, Nat.reduceMul, Nat.reduceLT, Int.cast_ofNat_Int, Int.reducePow, Nat.reducePow, Int.reduceToNat, true_and, and_true, and_self, Bool.and_true, Bool.true_and, Bool.false_and, Bool.and_false, Bool.or_false, Bool.false_or, Bool.true_or, Bool.or_true, decide_not, Int.reduceEq, Int.reduceNe, Int.reduceLT, Int.reduceLE, Int.reduceAdd, Int.reduceSub, Int.reduceMul, Int.reduceNeg, Int.reduceAbs, Int.natAbs_neg, *])
local macro_rules | `(tactic| walk_at "lc") => `(tactic| (refine ⟨_, rfl, ?_⟩; exact ⟨rfl, rfl⟩))

theorem rt_even (x : Q4) : x.rt.Even := by
  unfold Q4.Even Q4.rt
  dsimp only
  omega
theorem norm_unique {e f : E8} (h1 : Norm e) (h2 : Norm f) (h : Q4.Eqv e.q e.k f.q f.k) : e = f := by
  have key : ∀ {e f : E8}, Norm f → e.k ≤ f.k → Q4.Eqv e.q e.k f.q f.k → e = f := fun {e f} h2 hk h => by
    obtain ⟨d, hd⟩ : ∃ d, f.k = e.k + d := ⟨f.k - e.k, by omega⟩
    unfold Q4.Eqv at h
    rw [hd, Q4.rts_add] at h
    have h := Q4.rts_inj _ h
    cases d with
    | zero =>
      have h : e.q = f.q := h
      obtain ⟨a, b, c, d, k⟩ := e
      obtain ⟨a', b', c', d', k'⟩ := f
      have h : Q4.mk a b c d = Q4.mk a' b' c' d' := h
      cases h
      have hd : k' = k := hd
      rw [hd]
    | succ d =>
      rw [Q4.rts_succ] at h
      rcases h2.2 with z | z
      · omega
      · exact absurd (h ▸ rt_even _) z
  rcases Nat.le_total e.k f.k with hk | hk
  · exact key h2 hk h
  · exact (key h1 hk h.symm).symm
theorem low_unique {e : E8} {x : Q4} {k : Nat} (h1 : Norm e) (h : Q4.Eqv e.q e.k x k) : e = low x k := norm_unique h1 (low_norm x k) (h.trans (low_eqv x k).symm)
/-- numbers of some hundred figures at most -/
structure Nice (e : E8) : Prop where
  norm : Norm e
  bd : e.q.Bd (2 ^ 400)
  k : e.k ≤ 100
theorem Drawn.nice {e : E8} (h : Drawn e) : Nice e := ⟨h.norm, bd_mono h.bd (Nat.pow_le_pow_right (by decide) (by decide)), Nat.le_trans h.k (by decide)⟩
theorem Nice.sm {e : E8} (h : Nice e) : e.Sm := e8_sm h.bd (Nat.pow_lt_pow_right (by decide) (by decide)) (by have := h.k; omega)
theorem Nice.good {e : E8} (h : Nice e) : e.Good := ⟨h.sm, norm_low h.norm⟩
theorem conj_bd {B : Nat} {x : Q4} (h : x.Bd B) : x.conj.Bd B := by
  obtain ⟨h1, h2, h3, h4⟩ := h
  refine ⟨?_, ?_, ?_, ?_⟩ <;> simp only [Q4.conj] <;> omega
theorem Nice.conj {e : E8} (h : Nice e) : Nice (e.q.conj.e8 e.k) := ⟨norm_conj h.norm, conj_bd h.bd, h.k⟩
theorem vq_bd {B : Nat} {e : E8} (h : e.q.Bd B) : e.vq.Bd (2 * B) := by
  unfold E8.vq
  rcases Nat.mod_two_eq_zero_or_one e.k with h1 | h1
  · rw [h1]
    exact bd_mono h (by omega)
  · rw [h1]
    exact rt_bd h
theorem Nice.vsm {e : E8} (h : Nice e) : e.vq.Sm := bd_sm (vq_bd h.bd) (by rw [show 2 * 2 ^ 400 = 2 ^ 401 from rfl]; exact Nat.pow_lt_pow_right (by decide) (by decide))
theorem Nice.vh {e : E8} (h : Nice e) : e.vh ≤ 50 := by
  have := h.k
  unfold E8.vh
  omega
/-! ### sums of products -/
def tmE (e f : E8) : E8 := low (Q4.mul e.q f.q) (e.k + f.k)
def plE (e f : E8) : E8 := low (Q4.sum e.q e.k f.q f.k) (max e.k f.k)
def cjE (e : E8) : E8 := e.q.conj.e8 e.k
def insStep (a : E8) (p : E8 × E8) : E8 := plE a (tmE (cjE p.1) p.2)
def insE (es fs : List E8) : E8 := (es.zip fs).foldl insStep cNOUGHT
def lawStep (a : Q4 × Nat) (p : E8 × E8) : Q4 × Nat := (Q4.sum a.1 (2 * a.2) (Q4.mul p.1.vq.conj p.2.vq) (2 * (p.1.vh + p.2.vh)), max a.2 (p.1.vh + p.2.vh))
def insL (es fs : List E8) : Q4 × Nat := (es.zip fs).foldl lawStep (Q4.zero, 0)
theorem plE_norm (e f : E8) : Norm (plE e f) := low_norm _ _
theorem plE_k {e f : E8} {K : Nat} (h1 : e.k ≤ K) (h2 : f.k ≤ K) : (plE e f).k ≤ K := Nat.le_trans (low_le _ _) (Nat.max_le.mpr ⟨h1, h2⟩)
theorem tmE_k (e f : E8) : (tmE e f).k ≤ e.k + f.k := low_le _ _
theorem step_eqv {a : E8} {b : Q4 × Nat} (p : E8 × E8) (h : Q4.Eqv a.q a.k b.1 (2 * b.2)) : Q4.Eqv (insStep a p).q (insStep a p).k (lawStep b p).1 (2 * (lawStep b p).2) := by
  have q1 := Q4.eqv_conj (val_eqv p.1)
  have q2 := val_eqv p.2
  have t : Q4.Eqv (tmE (cjE p.1) p.2).q (tmE (cjE p.1) p.2).k (Q4.mul p.1.vq.conj p.2.vq) (2 * (p.1.vh + p.2.vh)) := by
    refine (low_eqv _ _).trans ?_
    have := (Q4.eqv_mul q1 q2).symm
    rw [show 2 * p.1.vh + 2 * p.2.vh = 2 * (p.1.vh + p.2.vh) by omega] at this
    exact this
  have s := Q4.eqv_sum h t
  rw [show max (2 * b.2) (2 * (p.1.vh + p.2.vh)) = 2 * max b.2 (p.1.vh + p.2.vh) by omega] at s
  exact (low_eqv _ _).trans s
theorem fold_eqv : ∀ (ps : List (E8 × E8)) (a : E8) (b : Q4 × Nat), Norm a → Q4.Eqv a.q a.k b.1 (2 * b.2) → Norm (ps.foldl insStep a) ∧ Q4.Eqv (ps.foldl insStep a).q (ps.foldl insStep a).k (ps.foldl lawStep b).1 (2 * (ps.foldl lawStep b).2)
  | [], a, b, h1, h2 => ⟨h1, h2⟩
  | p :: ps, a, b, h1, h2 => fold_eqv ps (insStep a p) (lawStep b p) (plE_norm _ _) (step_eqv p h2)
theorem ins_eqv (es fs : List E8) : Norm (insE es fs) ∧ Q4.Eqv (insE es fs).q (insE es fs).k (insL es fs).1 (2 * (insL es fs).2) := fold_eqv _ _ _ drawn_nought.norm rfl
theorem fold_k : ∀ (ps : List (E8 × E8)) (a : E8), (∀ p ∈ ps, Nice p.1 ∧ Nice p.2) → a.k ≤ 200 → (ps.foldl insStep a).k ≤ 200
  | [], a, _, h => h
  | p :: ps, a, hp, h => fold_k ps _ (fun q hq => hp q (List.mem_cons_of_mem _ hq)) (plE_k h (Nat.le_trans (tmE_k _ _) (by
      obtain ⟨h1, h2⟩ := hp p List.mem_cons_self
      have e1 : (cjE p.1).k ≤ 100 := h1.k
      have := h2.k
      omega)))
theorem foldL_k : ∀ (ps : List (E8 × E8)) (b : Q4 × Nat), (∀ p ∈ ps, Nice p.1 ∧ Nice p.2) → b.2 ≤ 200 → (ps.foldl lawStep b).2 ≤ 200
  | [], b, _, h => h
  | p :: ps, b, hp, h => foldL_k ps _ (fun q hq => hp q (List.mem_cons_of_mem _ hq)) (by
      obtain ⟨h1, h2⟩ := hp p List.mem_cons_self
      have := h1.vh
      have := h2.vh
      show max b.2 (p.1.vh + p.2.vh) ≤ 200
      omega)
theorem zip_mem {α β : Type} {P : α → Prop} {Q : β → Prop} {xs : List α} {ys : List β} (h1 : ∀ x ∈ xs, P x) (h2 : ∀ y ∈ ys, Q y) : ∀ p ∈ xs.zip ys, P p.1 ∧ Q p.2 := fun p hp => ⟨h1 _ (List.of_mem_zip hp).1, h2 _ (List.of_mem_zip hp).2⟩
theorem take_fold {α β : Type} (f : β → α → β) (b : β) {l : List α} {i : Nat} {x : α} (h : l[i]? = some x) : (l.take (i + 1)).foldl f b = f ((l.take i).foldl f b) x := by
  rw [List.take_succ, h, List.foldl_append]
  rfl
theorem mem_take_of {α : Type} {P : α → Prop} {l : List α} (h : ∀ x ∈ l, P x) (i : Nat) : ∀ x ∈ l.take i, P x := fun x hx => h x (List.mem_of_mem_take hx)
theorem zipD_map {α β : Type} (f : α → Dv.D) (g : β → Dv.D) : ∀ (xs : List α) (ys : List β), zipD (xs.map f) (ys.map g) = (xs.zip ys).map fun p => .tup [f p.1, g p.2]
  | [], ys => by cases ys <;> rfl
  | x :: xs, [] => rfl
  | x :: xs, y :: ys => by
    show Dv.D.tup [f x, g y] :: zipD (xs.map f) (ys.map g) = _
    rw [zipD_map f g xs ys]
    rfl
/-! ### turns -/
def tnE (t : Nat) (e : E8) : E8 := (Q4.tws t e.q).e8 e.k
theorem tnE_norm {t : Nat} {e : E8} (h : Norm e) : Norm (tnE t e) := norm_tws t (x := e.q) (k := e.k) h
theorem tnE_nice {t : Nat} {e : E8} (h : Nice e) : Nice (tnE t e) := ⟨tnE_norm h.norm, tws_bd t h.bd, h.k⟩
def trnP (es fs : List E8) (t : Nat) : Bool := decide (es.map (tnE t) = fs)
def optD : Option Nat → Dv.D
  | none => .non
  | some t => .int (t : Int)
/-- the law's test of a pair -/
def pairL (t : Nat) (p : E8 × E8) : Bool := decide (Q4.dbl (max p.1.vh p.2.vh - p.1.vh) (Q4.tws t p.1.vq) = Q4.dbl (max p.1.vh p.2.vh - p.2.vh) p.2.vq)
theorem pair_iff {t : Nat} {p : E8 × E8} (h1 : Norm p.1) (h2 : Norm p.2) : pairL t p = decide (tnE t p.1 = p.2) := by
  unfold pairL
  rw [decide_eq_decide]
  have q1 := Q4.eqv_tws t (val_eqv p.1)
  have q2 := val_eqv p.2
  refine ⟨fun h => ?_, fun h => ?_⟩
  · exact norm_unique (tnE_norm h1) h2 (q1.symm.trans ((Q4.of_same h).trans q2))
  · refine Q4.same_of (q1.trans (Q4.Eqv.trans ?_ q2.symm))
    rw [← h]
    exact Q4.Eqv.refl _ _
theorem all_pairs {t : Nat} : ∀ {es fs : List E8}, es.length = fs.length → (∀ e ∈ es, Norm e) → (∀ f ∈ fs, Norm f) → (((es.zip fs).filter fun p => !pairL t p) = [] ↔ es.map (tnE t) = fs)
  | [], [], _, _, _ => ⟨fun _ => rfl, fun _ => rfl⟩
  | [], f :: fs, h, _, _ => nomatch h
  | e :: es, [], h, _, _ => nomatch h
  | e :: es, f :: fs, h, h1, h2 => by
    have ih := all_pairs (t := t) (es := es) (fs := fs) (by simpa using h) (fun x hx => h1 x (List.mem_cons_of_mem _ hx)) fun x hx => h2 x (List.mem_cons_of_mem _ hx)
    have hp := pair_iff (t := t) (p := (e, f)) (h1 e List.mem_cons_self) (h2 f List.mem_cons_self)
    rw [List.zip_cons_cons, List.filter_cons, hp, List.map_cons]
    by_cases z : tnE t e = f
    · rw [decide_eq_true z, Bool.not_true, if_neg (by decide), ih]
      exact ⟨fun q => by rw [q, z], fun q => (List.cons.inj q).2⟩
    · rw [decide_eq_false z, Bool.not_false, if_pos rfl]
      exact ⟨fun q => (nomatch q), fun q => absurd (List.cons.inj q).1 z⟩
/-! ### loops -/
theorem for_pairs {i j : Nat} {body : M Fl} (P : Nat → En → Prop) (ps : List (Dv.D × Dv.D)) (ρ : En) (h0 : P 0 ρ) (h : ∀ (n : Nat) (p : Dv.D × Dv.D) (ρ : En), ps[n]? = some p → P n ρ → ∃ ρ2, body ((ρ.set i (some (.dat p.1))).set j (some (.dat p.2))) = .ok .nx ρ2 ∧ P (n + 1) ρ2) :
    ∃ ρ', forGo (.tp [.nm i, .nm j]) body (ps.map fun p => .tup [p.1, p.2]) ρ = .ok .nx ρ' ∧ P ps.length ρ' := by
  obtain ⟨ρ', e, hp⟩ := for_count (g := .tp [.nm i, .nm j]) (body := body) P (ps.map fun p => .tup [p.1, p.2]) ρ h0 fun n x ρ hx hp => by
    rw [List.getElem?_map] at hx
    obtain ⟨p, h1, rfl⟩ := Option.map_eq_some_iff.mp hx
    obtain ⟨ρ2, e2, hp2⟩ := h n p ρ h1 hp
    exact ⟨_, ρ2, .nx, rfl, e2, .inl rfl, hp2⟩
  rw [List.length_map] at hp
  exact ⟨ρ', e, hp⟩
/-- the first of range(m) that passes is given back -/
theorem for_first {j : Nat} {body : M Fl} (p : Nat → Bool) (I R : En → Prop) : ∀ (m a : Nat) (ρ : En), I ρ → (∀ (i : Nat) (ρ : En), a ≤ i → i < a + m → I ρ → p i = false → ∃ ρ2, body (ρ.set j (some (.dat (.int (i : Int))))) = .ok .nx ρ2 ∧ I ρ2) →
    (∀ (i : Nat) (ρ : En), a ≤ i → i < a + m → I ρ → p i = true → ∃ ρ2, body (ρ.set j (some (.dat (.int (i : Int))))) = .ok (.rt (.dat (.int (i : Int)))) ρ2 ∧ R ρ2) →
    (∃ ρ', forGo (.nm j) body ((List.range' a m).map fun i : Nat => .int (i : Int)) ρ = .ok .nx ρ' ∧ I ρ' ∧ (List.range' a m).find? p = none) ∨
      ∃ (i : Nat) (ρ' : En), forGo (.nm j) body ((List.range' a m).map fun i : Nat => .int (i : Int)) ρ = .ok (.rt (.dat (.int (i : Int)))) ρ' ∧ R ρ' ∧ (List.range' a m).find? p = some i
  | 0, a, ρ, h, _, _ => .inl ⟨ρ, rfl, h, rfl⟩
  | m + 1, a, ρ, h, h1, h2 => by
    rw [List.range'_succ, List.map_cons, List.find?_cons]
    have e0 : ∀ xs, forGo (.nm j) body (.int (a : Int) :: xs) ρ = M.bnd (asgT (.nm j) (.int (a : Int))) (fun _ => body.bnd fun f => match f with
      | .nx => forGo (.nm j) body xs
      | .ct => forGo (.nm j) body xs
      | .bk => M.ret .nx
      | .rt y => M.ret (.rt y)) ρ := fun xs => rfl
    have ea : asgT (.nm j) (.int (a : Int)) ρ = .ok () (ρ.set j (some (.dat (.int (a : Int))))) := rfl
    cases hp : p a with
    | true =>
      obtain ⟨ρ2, e2, r2⟩ := h2 a ρ (Nat.le_refl _) (by omega) h hp
      refine .inr ⟨a, ρ2, ?_, r2, rfl⟩
      rw [e0, bnd_ap, ea]
      dsimp only
      rw [bnd_ap, e2]
      rfl
    | false =>
      obtain ⟨ρ2, e2, i2⟩ := h1 a ρ (Nat.le_refl _) (by omega) h hp
      have e3 : forGo (.nm j) body (.int (a : Int) :: (List.range' (a + 1) m).map fun i : Nat => .int (i : Int)) ρ = forGo (.nm j) body ((List.range' (a + 1) m).map fun i : Nat => .int (i : Int)) ρ2 := by
        rw [e0, bnd_ap, ea]
        dsimp only
        rw [bnd_ap, e2]
      rw [e3]
      exact for_first p I R m (a + 1) ρ2 i2 (fun i ρ g1 g2 => h1 i ρ (by omega) (by omega)) fun i ρ g1 g2 => h2 i ρ (by omega) (by omega)
def nthS : CSs → Nat → CS
  | .cons s _, 0 => s
  | .cons _ ss, n + 1 => nthS ss n
  | .nil, _ => .pass
theorem max_nat' (i j : Nat) : max (2 * i) (2 * j) = 2 * max i j := by omega
theorem optD_eq (x : Option Nat) : eqD (optD x) (optD x) = some true ∧ isiD (optD x) (.bt "bool") = some false := by
  cases x with
  | none => exact ⟨rfl, rfl⟩
  | some t =>
    refine ⟨?_, rfl⟩
    show eqD (.int (t : Int)) (.int (t : Int)) = _
    rw [eqD_int, decide_eq_true rfl]
/-! ### written texts -/
theorem ofs_inj {a b : String} (h : Str.ofString a = Str.ofString b) : a = b := by
  rw [Str.ofString_eq_toList, Str.ofString_eq_toList] at h
  have h := congrArg (fun x : Str => x.cps.toList) h
  have h : a.toList.map Char.toNat = b.toList.map Char.toNat := h
  have key : ∀ l m : List Char, l.map Char.toNat = m.map Char.toNat → l = m := fun l => by
    induction l with
    | nil => intro m h; cases m with
      | nil => rfl
      | cons c m => cases h
    | cons c l ih => intro m h; cases m with
      | nil => cases h
      | cons d m =>
        rw [List.map_cons, List.map_cons] at h
        obtain ⟨h1, h2⟩ := List.cons.inj h
        rw [ih m h2]
        congr 1
        exact Char.toNat_inj.mp h1
  have := key _ _ h
  exact String.toList_inj.mp this
theorem ofs_eq (a b : String) : (Str.ofString a = Str.ofString b) = (a = b) := propext ⟨ofs_inj, fun h => by rw [h]⟩
theorem eqD_ofs (a b : String) : eqD (.str (Str.ofString a)) (.str (Str.ofString b)) = some (decide (a = b)) := by
  rw [eqD_str (strOk_of a) (strOk_of b)]
  congr 1
  rw [decide_eq_decide, ofs_eq]
theorem inD_ofs (a : String) (l : List String) : inD (.str (Str.ofString a)) (l.map fun s => .str (Str.ofString s)) = some (decide (a ∈ l)) :=
  inD_map (f := fun s => Dv.D.str (Str.ofString s)) (fun s => strOk_of s) (fun _ => Nat.zero_le _) (fun x y => by
    show (Str.ofString x == Str.ofString y) = _
    show decide (Str.ofString x = Str.ofString y) = _
    rw [decide_eq_decide, ofs_eq]) a l
theorem evK (Φ : Nat → Fn) (ρ : En) : (∀ kvs k d, ev Φ (.dget kvs k d) ρ = M.bnd (ev Φ k) (fun r => (ev Φ d).bnd fun q => (getM r).bnd fun x => (getM q).bnd fun y => (M.opt (keyD kvs x.frz)).bnd fun o => match o with
    | some v => M.ret (.val (.dat v))
    | none => match y with
      | .dat d => M.ret (.val (.dat d))
      | _ => fun _ => .stuck) ρ) ∧
    (∀ kvs k, ev Φ (.dix kvs k) ρ = M.bnd (ev Φ k) (fun r => (getM r).bnd fun x => (M.opt ((keyD kvs x.frz).bind id)).bnd fun v => M.ret (.val (.dat v))) ρ) := by
  refine ⟨?_, ?_⟩ <;> intros <;> first | rfl | (simp only [ev, M.ret])
theorem keyE : (∀ k, keyD [] k = some none) ∧ (∀ a v r b, keyD ((.str a, v) :: r) (.str b) = if a = b then some (some v) else keyD r (.str b)) ∧ (∀ a v r b, keyD ((.int a, v) :: r) (.int b) = if a = b then some (some v) else keyD r (.int b)) := ⟨fun _ => rfl, fun _ _ _ _ => rfl, fun _ _ _ _ => rfl⟩
theorem for_trips {i j k : Nat} {body : M Fl} (P : Nat → En → Prop) (ps : List (Dv.D × Dv.D × Dv.D)) (ρ : En) (h0 : P 0 ρ) (h : ∀ (n : Nat) (p : Dv.D × Dv.D × Dv.D) (ρ : En), ps[n]? = some p → P n ρ → ∃ ρ2, body (((ρ.set i (some (.dat p.1))).set j (some (.dat p.2.1))).set k (some (.dat p.2.2))) = .ok .nx ρ2 ∧ P (n + 1) ρ2) :
    ∃ ρ', forGo (.tp [.nm i, .nm j, .nm k]) body (ps.map fun p => .tup [p.1, p.2.1, p.2.2]) ρ = .ok .nx ρ' ∧ P ps.length ρ' := by
  obtain ⟨ρ', e, hp⟩ := for_count (g := .tp [.nm i, .nm j, .nm k]) (body := body) P (ps.map fun p => .tup [p.1, p.2.1, p.2.2]) ρ h0 fun n x ρ hx hp => by
    rw [List.getElem?_map] at hx
    obtain ⟨p, h1, rfl⟩ := Option.map_eq_some_iff.mp hx
    obtain ⟨ρ2, e2, hp2⟩ := h n p ρ h1 hp
    exact ⟨_, ρ2, .nx, rfl, e2, .inl rfl, hp2⟩
  rw [List.length_map] at hp
  exact ⟨ρ', e, hp⟩
theorem enumD_map {α : Type} (f : α → Dv.D) : ∀ (k : Nat) (l : List α), enumD k (l.map f) = ((l.zipIdx k).map fun p => (Dv.D.int (p.2 : Nat), f p.1)).map fun p => .tup [p.1, p.2]
  | k, [] => rfl
  | k, x :: l => by
    show Dv.D.tup [.int (k : Nat), f x] :: enumD (k + 1) (l.map f) = _
    rw [enumD_map f (k + 1) l]
    rfl
end Dv.Law
end
section
set_option Elab.async false
set_option maxRecDepth 100000
set_option linter.all false
/-! Gates by their words and wires; where they lead rows; what they make of vectors -/
namespace Dv.Law
open PySem Dv
inductive Wd where
  | x | y | z | s | r | t | u | h | cx | cz | swap | ccx
  deriving DecidableEq
def Wd.ar : Wd → Nat
  | .cx | .cz | .swap => 2
  | .ccx => 3
  | _ => 1
def Wd.name : Wd → String
  | .x => "x" | .y => "y" | .z => "z" | .s => "s" | .r => "r" | .t => "t" | .u => "u" | .h => "h" | .cx => "cx" | .cz => "cz" | .swap => "swap" | .ccx => "ccx"
def Wd.all : List Wd := [.x, .y, .z, .s, .r, .t, .u, .h, .cx, .cz, .swap, .ccx]
theorem Wd.mem_all (w : Wd) : w ∈ Wd.all := by cases w <;> decide
structure Gt where
  w : Wd
  ws : List Nat
  deriving DecidableEq
structure Gt.Ok (n : Nat) (g : Gt) : Prop where
  ar : g.ws.length = g.w.ar
  nd : g.ws.Nodup
  lt : ∀ a ∈ g.ws, a < n
def tups (n : Nat) : Nat → List (List Nat)
  | 0 => [[]]
  | k + 1 => (List.range n).flatMap fun a => ((tups n k).filter fun l => !l.contains a).map (a :: ·)
theorem tups_mem (n : Nat) : ∀ (k : Nat) (l : List Nat), l.length = k → l.Nodup → (∀ a ∈ l, a < n) → l ∈ tups n k
  | 0, l, h, _, _ => by
    rw [List.length_eq_zero_iff.mp h]
    exact List.mem_singleton.mpr rfl
  | k + 1, [], h, _, _ => nomatch h
  | k + 1, a :: l, h, h2, h3 => by
    have hn := List.nodup_cons.mp h2
    unfold tups
    refine List.mem_flatMap.mpr ⟨a, List.mem_range.mpr (h3 a List.mem_cons_self), List.mem_map.mpr ⟨l, List.mem_filter.mpr ⟨tups_mem n k l (by simpa using h) hn.2 fun b hb => h3 b (List.mem_cons_of_mem _ hb), ?_⟩, rfl⟩⟩
    simpa using hn.1
def gts (n : Nat) : List Gt := Wd.all.flatMap fun w => (tups n w.ar).map fun l => ⟨w, l⟩
theorem gts_mem {n : Nat} {g : Gt} (h : g.Ok n) : g ∈ gts n := List.mem_flatMap.mpr ⟨g.w, Wd.mem_all _, List.mem_map.mpr ⟨g.ws, tups_mem n _ _ h.ar h.nd h.lt, rfl⟩⟩
def Gt.back (g : Gt) : Gt := match g.w with
  | .s => ⟨.r, g.ws⟩
  | .r => ⟨.s, g.ws⟩
  | .t => ⟨.u, g.ws⟩
  | .u => ⟨.t, g.ws⟩
  | _ => g
def Gt.ro (g : Gt) : Nat := if g.w = .h then 1 else 0
theorem back_ok {n : Nat} {g : Gt} (h : g.Ok n) : g.back.Ok n := by
  obtain ⟨w, ws⟩ := g
  cases w <;> exact ⟨h.ar, h.nd, h.lt⟩
theorem back_back (g : Gt) : g.back.back = g := by
  obtain ⟨w, ws⟩ := g
  cases w <;> rfl
theorem back_ro (g : Gt) : g.back.ro = g.ro := by
  obtain ⟨w, ws⟩ := g
  cases w <;> rfl
/-! ### rows -/
def bitAt (n row a : Nat) : Nat := row / 2 ^ (n - 1 - a) % 2
abbrev Tr : Type := Nat × Nat × Nat
/-- the program: where bits go -/
def outB (w : Wd) (bits : List Nat) : List (List Nat × Nat × Nat) :=
  let b := fun i => bits.getD i 0
  match w with
  | .x => [([1 - b 0], 0, 0)]
  | .y => [([1 - b 0], 2 + 4 * b 0, 0)]
  | .z => [(bits, 4 * b 0, 0)]
  | .s => [(bits, 2 * b 0, 0)]
  | .r => [(bits, 6 * b 0, 0)]
  | .t => [(bits, 1 * b 0, 0)]
  | .u => [(bits, 7 * b 0, 0)]
  | .h => [([0], 0, 1), ([1], 4 * b 0, 1)]
  | .cx => [([b 0, (b 0 + b 1) % 2], 0, 0)]
  | .cz => [(bits, 4 * b 0 * b 1, 0)]
  | .swap => [([b 1, b 0], 0, 0)]
  | .ccx => [([b 0, b 1, (b 2 + b 0 * b 1) % 2], 0, 0)]
def put1 (row p b : Nat) : Nat := row - row / 2 ^ p % 2 * 2 ^ p + b * 2 ^ p
def putB (row : Nat) : List Nat → List Nat → Nat
  | p :: ps, b :: bs => putB (put1 row p b) ps bs
  | _, _ => row
def goP (n : Nat) (g : Gt) (row : Nat) : List Tr := (outB g.w (g.ws.map (bitAt n row))).map fun o => (putB row (g.ws.map fun a => n - 1 - a) o.1, o.2.1, o.2.2)
/-- the law -/
def flipN (n row a : Nat) : Nat := if bitAt n row a = 0 then row + 2 ^ (n - 1 - a) else row - 2 ^ (n - 1 - a)
def swapN (n row a b : Nat) : Nat := if bitAt n row a = bitAt n row b then row else flipN n (flipN n row a) b
def goL (n : Nat) (g : Gt) (row : Nat) : List Tr :=
  let a := fun i => g.ws.getD i 0
  let b := fun i => bitAt n row (a i)
  let l := flipN n row (a (g.ws.length - 1))
  match g.w with
  | .x => [(l, 0, 0)]
  | .y => [(l, if b 0 = 0 then 2 else 6, 0)]
  | .z => [(row, 4 * b 0, 0)]
  | .s => [(row, 2 * b 0, 0)]
  | .r => [(row, 6 * b 0, 0)]
  | .t => [(row, 1 * b 0, 0)]
  | .u => [(row, 7 * b 0, 0)]
  | .h => [(row, 4 * b 0, 1), (l, 0, 1)]
  | .cx => [(if b 0 = 0 then row else l, 0, 0)]
  | .cz => [(row, if b 0 = 1 ∧ b 1 = 1 then 4 else 0, 0)]
  | .swap => [(swapN n row (a 0) (a 1), 0, 0)]
  | .ccx => [(if b 0 = 0 ∨ b 1 = 0 then row else l, 0, 0)]
/-- what is asked of each gate and row -/
def hOk (n : Nat) (g : Gt) (row : Nat) : Bool :=
  let a := g.ws.getD 0 0
  let f := flipN n row a
  decide (f < 2 ^ n ∧ f ≠ row ∧ flipN n f a = row ∧ bitAt n f a = 1 - bitAt n row a) && (if bitAt n row a = 0 then decide (row < f) && decide (goP n g row = [(row, 0, 1), (f, 0, 1)]) else decide (goP n g row = [(f, 0, 1), (row, 4, 1)]))
def pOk (n : Nat) (g : Gt) (row : Nat) : Bool := match goP n g row with
  | [(p, t, 0)] => decide (p < 2 ^ n ∧ t < 8) && (match goP n g.back p with
    | [(q, u, 0)] => decide (q = row ∧ u < 8 ∧ (t + u) % 8 = 0)
    | _ => false)
  | _ => false
def lOk (n : Nat) (g : Gt) (row : Nat) : Bool := decide (goL n g row = goP n g row) || (match goP n g row with
  | [p, q] => decide (goL n g row = [q, p] ∧ p.1 ≠ q.1)
  | _ => false)
def tOk (n : Nat) (g : Gt) (row : Nat) : Bool := (goP n g row).all fun o => decide (o.1 < 2 ^ n ∧ o.2.1 < 8 ∧ o.2.2 = g.ro)
def gOk (n : Nat) (g : Gt) (row : Nat) : Bool := (tOk n g row && lOk n g row) && (if g.w = .h then hOk n g row else pOk n g row)
def chkG : Bool := (List.range 6).all fun n => (gts n).all fun g => (List.range (2 ^ n)).all fun row => gOk n g row
set_option maxHeartbeats 0 in
theorem chkG_ok : chkG = true := by decide +kernel
theorem gOk_of {n : Nat} {g : Gt} {row : Nat} (hn : n ≤ 5) (h : g.Ok n) (hr : row < 2 ^ n) : gOk n g row = true :=
  List.all_eq_true.mp (List.all_eq_true.mp (List.all_eq_true.mp chkG_ok n (List.mem_range.mpr (by omega))) g (gts_mem h)) row (List.mem_range.mpr hr)
section
variable {n : Nat} {g : Gt} {row : Nat} (hn : n ≤ 5) (h : g.Ok n) (hr : row < 2 ^ n)
include hn h hr
theorem go_t : ∀ o ∈ goP n g row, o.1 < 2 ^ n ∧ o.2.1 < 8 ∧ o.2.2 = g.ro := fun o ho => by
  have := gOk_of hn h hr
  unfold gOk at this
  rw [Bool.and_eq_true, Bool.and_eq_true] at this
  exact of_decide_eq_true (List.all_eq_true.mp this.1.1 o ho)
theorem go_l : goL n g row = goP n g row ∨ ∃ p q, goP n g row = [p, q] ∧ goL n g row = [q, p] ∧ p.1 ≠ q.1 := by
  have := gOk_of hn h hr
  unfold gOk at this
  rw [Bool.and_eq_true, Bool.and_eq_true] at this
  have := this.1.2
  unfold lOk at this
  rw [Bool.or_eq_true] at this
  rcases this with z | z
  · exact .inl (of_decide_eq_true z)
  · split at z
    · rename_i p q e
      have z := of_decide_eq_true z
      exact .inr ⟨p, q, e, z.1, z.2⟩
    · cases z
theorem go_p (hh : g.w ≠ .h) : ∃ p t u, goP n g row = [(p, t, 0)] ∧ p < 2 ^ n ∧ t < 8 ∧ goP n g.back p = [(row, u, 0)] ∧ u < 8 ∧ (t + u) % 8 = 0 := by
  have := gOk_of hn h hr
  unfold gOk at this
  rw [Bool.and_eq_true, if_neg hh] at this
  have := this.2
  unfold pOk at this
  split at this
  · rename_i p t e
    rw [Bool.and_eq_true] at this
    obtain ⟨a1, a2⟩ := this
    have a1 := of_decide_eq_true a1
    split at a2
    · rename_i q u e2
      obtain ⟨rfl, b2, b3⟩ := of_decide_eq_true a2
      exact ⟨p, t, u, e, a1.1, a1.2, e2, b2, b3⟩
    · cases a2
  · cases this
theorem go_h (hh : g.w = .h) : ∃ f, f < 2 ^ n ∧ ((row < f ∧ goP n g row = [(row, 0, 1), (f, 0, 1)] ∧ goP n g f = [(row, 0, 1), (f, 4, 1)]) ∨ (f < row ∧ goP n g row = [(f, 0, 1), (row, 4, 1)] ∧ goP n g f = [(f, 0, 1), (row, 0, 1)])) := by
  have one : ∀ {r : Nat}, r < 2 ^ n → hOk n g r = true := fun {r} hr => by
    have := gOk_of hn h hr
    unfold gOk at this
    rw [Bool.and_eq_true, if_pos hh] at this
    exact this.2
  have a := one hr
  unfold hOk at a
  dsimp only at a
  rw [Bool.and_eq_true] at a
  obtain ⟨a1, a2⟩ := a
  obtain ⟨f1, f2, f3, f4⟩ := of_decide_eq_true a1
  have b := one f1
  unfold hOk at b
  dsimp only at b
  rw [Bool.and_eq_true] at b
  obtain ⟨b1, b2⟩ := b
  rw [f3, f4] at b2
  have hb : bitAt n row (g.ws.getD 0 0) = 0 ∨ bitAt n row (g.ws.getD 0 0) = 1 := by
    unfold bitAt
    omega
  refine ⟨flipN n row (g.ws.getD 0 0), f1, ?_⟩
  rcases hb with hb | hb
  · rw [hb] at a2 b2
    rw [if_pos rfl, Bool.and_eq_true] at a2
    rw [if_neg (by decide)] at b2
    exact .inl ⟨of_decide_eq_true a2.1, of_decide_eq_true a2.2, of_decide_eq_true b2⟩
  · rw [hb] at a2 b2
    rw [if_neg (by decide)] at a2
    rw [if_pos (by decide), Bool.and_eq_true] at b2
    exact .inr ⟨of_decide_eq_true b2.1, of_decide_eq_true a2, of_decide_eq_true b2.2⟩
end
end Dv.Law
end
section
set_option Elab.async false
set_option maxRecDepth 100000
set_option linter.all false
/-! What gates make of vectors of numbers -/
namespace Dv.Law
open PySem Dv
namespace Q4
theorem add_zero (x : Q4) : add x zero = x := by apply ext' <;> simp only [add, zero, Int.add_zero]
theorem zero_add (x : Q4) : add zero x = x := by apply ext' <;> simp only [add, zero, Int.zero_add]
theorem add_comm (x y : Q4) : add x y = add y x := by apply ext' <;> simp only [add] <;> omega
theorem add_assoc (x y z : Q4) : add (add x y) z = add x (add y z) := by apply ext' <;> simp only [add] <;> omega
theorem add_right_comm (x y z : Q4) : add (add x y) z = add (add x z) y := by apply ext' <;> simp only [add] <;> omega
theorem tws_add : ∀ (i j : Nat) (x : Q4), tws (i + j) x = tws i (tws j x)
  | i, 0, x => rfl
  | i, j + 1, x => tws_add i j (tw x)
theorem tws8 (x : Q4) : tws 8 x = x := by
  obtain ⟨a, b, c, d⟩ := x
  simp [tws, tw]
theorem tws4 (x : Q4) : tws 4 x = ⟨-x.a, -x.b, -x.c, -x.d⟩ := rfl
theorem tws_back {i j : Nat} (hi : i < 8) (hj : j < 8) (h : (i + j) % 8 = 0) (x : Q4) : tws i (tws j x) = x := by
  rw [← tws_add]
  have : i + j = 0 ∨ i + j = 8 := by omega
  rcases this with e | e
  · rw [e]
    rfl
  · rw [e]
    exact tws8 x
theorem conj_tw (x y : Q4) : mul (conj (tw x)) (tw y) = mul (conj x) y := by apply ext' <;> simp only [mul, conj, tw] <;> grind
theorem conj_tws : ∀ (t : Nat) (x y : Q4), mul (conj (tws t x)) (tws t y) = mul (conj x) y
  | 0, x, y => rfl
  | t + 1, x, y => (conj_tws t (tw x) (tw y)).trans (conj_tw x y)
theorem rts2 (x : Q4) : rts 2 x = add x x := by
  have : rts (2 * 1) x = dbl 1 x := rts_two 1 x
  rw [show 2 = 2 * 1 from rfl, this]
  apply ext' <;> simp only [dbl, add] <;> omega
end Q4
theorem add_bd {B C : Nat} {x y : Q4} (h1 : x.Bd B) (h2 : y.Bd C) : (Q4.add x y).Bd (B + C) := by
  obtain ⟨a1, a2, a3, a4⟩ := h1
  obtain ⟨b1, b2, b3, b4⟩ := h2
  refine ⟨?_, ?_, ?_, ?_⟩ <;> simp only [Q4.add] <;> omega
def addF (F : Nat → Q4) (t : Nat) (x : Q4) : Nat → Q4 := fun s => if s = t then Q4.add (F s) x else F s
def rowF (os : List Tr) (x : Q4) (F : Nat → Q4) : Nat → Q4 := os.foldl (fun F o => addF F o.1 (Q4.tws o.2.1 x)) F
def linF (go : Nat → List Tr) (v : Nat → Q4) : Nat → (Nat → Q4)
  | 0 => fun _ => Q4.zero
  | r + 1 => rowF (go r) (v r) (linF go v r)
def sumTo (f : Nat → Q4) : Nat → Q4
  | 0 => Q4.zero
  | r + 1 => Q4.add (sumTo f r) (f r)
theorem sumTo_congr {f g : Nat → Q4} : ∀ {N : Nat}, (∀ r, r < N → f r = g r) → sumTo f N = sumTo g N
  | 0, _ => rfl
  | N + 1, h => by
    show Q4.add _ _ = Q4.add _ _
    rw [sumTo_congr fun r hr => h r (by omega), h N (by omega)]
theorem sum_none {f : Nat → Q4} : ∀ {N : Nat}, (∀ r, r < N → f r = Q4.zero) → sumTo f N = Q4.zero
  | 0, _ => rfl
  | N + 1, h => by
    show Q4.add _ _ = _
    rw [sum_none fun r hr => h r (by omega), h N (by omega), Q4.add_zero]
theorem sum_one {f : Nat → Q4} {r0 : Nat} : ∀ {N : Nat}, r0 < N → (∀ r, r < N → r ≠ r0 → f r = Q4.zero) → sumTo f N = f r0
  | N + 1, h0, h => by
    show Q4.add _ _ = _
    by_cases e : N = r0
    · subst e
      rw [sum_none fun r hr => h r (by omega) (by omega), Q4.zero_add]
    · rw [sum_one (N := N) (by omega) fun r hr => h r (by omega), h N (by omega) e, Q4.add_zero]
theorem sum_two {f : Nat → Q4} {r0 r1 : Nat} (h01 : r0 < r1) : ∀ {N : Nat}, r1 < N → (∀ r, r < N → r ≠ r0 → r ≠ r1 → f r = Q4.zero) → sumTo f N = Q4.add (f r0) (f r1)
  | N + 1, h0, h => by
    show Q4.add _ _ = _
    by_cases e : N = r1
    · subst e
      rw [sum_one (r0 := r0) h01 fun r hr h2 => h r (by omega) h2 (by omega)]
    · rw [sum_two h01 (N := N) (by omega) fun r hr => h r (by omega), h N (by omega) (by omega) e, Q4.add_zero]
theorem sum_add (f g : Nat → Q4) : ∀ N : Nat, sumTo (fun r => Q4.add (f r) (g r)) N = Q4.add (sumTo f N) (sumTo g N)
  | 0 => rfl
  | N + 1 => by
    show Q4.add (sumTo _ N) (Q4.add (f N) (g N)) = Q4.add (Q4.add (sumTo f N) (f N)) (Q4.add (sumTo g N) (g N))
    rw [sum_add f g N, Q4.add_assoc, Q4.add_assoc, ← Q4.add_assoc (sumTo g N), Q4.add_comm (sumTo g N) (f N), Q4.add_assoc]
theorem sumTo_list (f : Nat → Q4) : ∀ N : Nat, sumTo f N = ((List.range N).map f).foldl Q4.add Q4.zero
  | 0 => rfl
  | N + 1 => by
    rw [List.range_succ, List.map_append, List.foldl_append, ← sumTo_list f N]
    rfl
/-- another order of rows -/
theorem sum_perm {s : Nat → Nat} {N : Nat} (h1 : ∀ r, r < N → s r < N) (h2 : ∀ r r', r < N → r' < N → s r = s r' → r = r') (h3 : ∀ t, t < N → ∃ r, r < N ∧ s r = t) (f : Nat → Q4) : sumTo (fun r => f (s r)) N = sumTo f N := by
  have hn : ((List.range N).map s).Nodup := by
    have key : ∀ l : List Nat, l.Nodup → (∀ r ∈ l, r < N) → (l.map s).Nodup := fun l => by
      induction l with
      | nil => exact fun _ _ => List.nodup_nil
      | cons a l ih =>
        intro hn hl
        have hn := List.nodup_cons.mp hn
        rw [List.map_cons, List.nodup_cons]
        refine ⟨fun hm => ?_, ih hn.2 fun r hr => hl r (List.mem_cons_of_mem _ hr)⟩
        obtain ⟨b, hb, e⟩ := List.mem_map.mp hm
        have := h2 b a (hl b (List.mem_cons_of_mem _ hb)) (hl a List.mem_cons_self) e
        exact hn.1 (this ▸ hb)
    exact key _ List.nodup_range fun r hr => List.mem_range.mp hr
  have hp : List.Perm ((List.range N).map s) (List.range N) := (List.perm_ext_iff_of_nodup hn List.nodup_range).mpr fun a => by
    rw [List.mem_range]
    refine ⟨fun h => ?_, fun h => ?_⟩
    · obtain ⟨r, hr, rfl⟩ := List.mem_map.mp h
      exact h1 r (List.mem_range.mp hr)
    · obtain ⟨r, hr, rfl⟩ := h3 a h
      exact List.mem_map.mpr ⟨r, List.mem_range.mpr hr, rfl⟩
  rw [sumTo_list, sumTo_list]
  have hm := hp.map f
  rw [List.map_map] at hm
  exact List.Perm.foldl_eq' hm (fun x _ y _ z => Q4.add_right_comm z x y) _
theorem lin_at {go : Nat → List Tr} {v : Nat → Q4} {t : Nat} {c : Nat → Q4} : ∀ {N : Nat}, (∀ r, r < N → ∀ F, rowF (go r) (v r) F t = Q4.add (F t) (c r)) → linF go v N t = sumTo c N
  | 0, _ => rfl
  | N + 1, h => by
    show rowF (go N) (v N) (linF go v N) t = Q4.add (sumTo c N) (c N)
    rw [h N (by omega), lin_at (N := N) fun r hr => h r (by omega)]
theorem lin_congr {go go' : Nat → List Tr} {v v' : Nat → Q4} : ∀ {N : Nat}, (∀ r, r < N → v r = v' r) → (∀ r, r < N → ∀ F, rowF (go r) (v r) F = rowF (go' r) (v r) F) → linF go v N = linF go' v' N
  | 0, _, _ => rfl
  | N + 1, h, h2 => by
    show rowF (go N) (v N) (linF go v N) = rowF (go' N) (v' N) (linF go' v' N)
    rw [lin_congr (N := N) (fun r hr => h r (by omega)) fun r hr => h2 r (by omega), h2 N (by omega), h N (by omega)]
section
variable {n : Nat} {g : Gt} (hn : n ≤ 5) (h : g.Ok n)
include hn h
theorem lin_l (v : Nat → Q4) : linF (goL n g) v (2 ^ n) = linF (goP n g) v (2 ^ n) := by
  refine lin_congr (fun r hr => rfl) fun r hr F => ?_
  rcases go_l hn h hr with e | ⟨p, q, e1, e2, hne⟩
  · rw [e]
  · rw [e1, e2]
    funext s
    show addF (addF F q.1 _) p.1 _ s = addF (addF F p.1 _) q.1 _ s
    unfold addF
    by_cases s1 : s = p.1
    · subst s1
      rw [if_pos rfl, if_neg hne, if_neg hne, if_pos rfl]
    · by_cases s2 : s = q.1
      · subst s2
        rw [if_neg s1, if_pos rfl, if_pos rfl, if_neg s1]
      · rw [if_neg s1, if_neg s2, if_neg s2, if_neg s1]
theorem lin_p (hh : g.w ≠ .h) {t : Nat} (ht : t < 2 ^ n) : ∃ r τ u, r < 2 ^ n ∧ τ < 8 ∧ u < 8 ∧ (τ + u) % 8 = 0 ∧ goP n g r = [(t, τ, 0)] ∧ goP n g.back t = [(r, u, 0)] ∧ ∀ v : Nat → Q4, linF (goP n g) v (2 ^ n) t = Q4.tws τ (v r) := by
  have hb : g.back.w ≠ .h := by
    obtain ⟨w, ws⟩ := g
    cases w <;> first | exact absurd rfl hh | exact fun z => nomatch z
  obtain ⟨r, u, τ, e1, h1, h2, e2, h3, h4⟩ := go_p hn (back_ok h) ht hb
  rw [back_back] at e2
  refine ⟨r, τ, u, h1, h3, h2, by omega, e2, e1, fun v => ?_⟩
  have c : ∀ r', r' < 2 ^ n → ∀ F, rowF (goP n g r') (v r') F t = Q4.add (F t) (if r' = r then Q4.tws τ (v r) else Q4.zero) := fun r' hr' F => by
    by_cases e : r' = r
    · subst e
      rw [e2, if_pos rfl]
      show addF F t _ t = _
      unfold addF
      rw [if_pos rfl]
    · rw [if_neg e, Q4.add_zero]
      obtain ⟨p, a, b, f1, _, _, f2, _, _⟩ := go_p hn h hr' hh
      rw [f1]
      show addF F p _ t = _
      unfold addF
      rw [if_neg]
      rintro rfl
      rw [e1] at f2
      cases f2
      exact e rfl
  rw [lin_at c, sum_one h1 fun r' _ hne => if_neg hne, if_pos rfl]
theorem lin_h (hh : g.w = .h) {t : Nat} (ht : t < 2 ^ n) : ∃ lo hi, lo < hi ∧ hi < 2 ^ n ∧ ((t = lo ∧ flipN n lo (g.ws.getD 0 0) = hi) ∨ (t = hi ∧ flipN n hi (g.ws.getD 0 0) = lo)) ∧ ∀ v : Nat → Q4, linF (goP n g) v (2 ^ n) lo = Q4.add (v lo) (v hi) ∧ linF (goP n g) v (2 ^ n) hi = Q4.add (v lo) (Q4.tws 4 (v hi)) := by
  have hk : ∀ {r : Nat}, r < 2 ^ n → hOk n g r = true := fun {r} hr => by
    have := gOk_of hn h hr
    unfold gOk at this
    rw [Bool.and_eq_true, if_pos hh] at this
    exact this.2
  -- the two rows
  have two : ∀ {r : Nat}, r < 2 ^ n → flipN n r (g.ws.getD 0 0) < 2 ^ n ∧ flipN n (flipN n r (g.ws.getD 0 0)) (g.ws.getD 0 0) = r ∧ ((r < flipN n r (g.ws.getD 0 0) ∧ goP n g r = [(r, 0, 1), (flipN n r (g.ws.getD 0 0), 0, 1)]) ∨ (flipN n r (g.ws.getD 0 0) < r ∧ goP n g r = [(flipN n r (g.ws.getD 0 0), 0, 1), (r, 4, 1)])) := fun {r} hr => by
    have a := hk hr
    unfold hOk at a
    dsimp only at a
    rw [Bool.and_eq_true] at a
    obtain ⟨a1, a2⟩ := a
    obtain ⟨f1, f2, f3, f4⟩ := of_decide_eq_true a1
    refine ⟨f1, f3, ?_⟩
    split at a2
    · rw [Bool.and_eq_true] at a2
      exact .inl ⟨of_decide_eq_true a2.1, of_decide_eq_true a2.2⟩
    · rename_i hb
      have b := hk f1
      unfold hOk at b
      dsimp only at b
      rw [Bool.and_eq_true] at b
      rw [f3, f4] at b
      have h0 : 1 - bitAt n r (g.ws.getD 0 0) = 0 := by
        have : bitAt n r (g.ws.getD 0 0) < 2 := Nat.mod_lt _ (by decide)
        omega
      rw [if_pos h0, Bool.and_eq_true] at b
      exact .inr ⟨of_decide_eq_true b.2.1, of_decide_eq_true a2⟩
  have main : ∀ lo, lo < 2 ^ n → lo < flipN n lo (g.ws.getD 0 0) → ∀ v : Nat → Q4, linF (goP n g) v (2 ^ n) lo = Q4.add (v lo) (v (flipN n lo (g.ws.getD 0 0))) ∧ linF (goP n g) v (2 ^ n) (flipN n lo (g.ws.getD 0 0)) = Q4.add (v lo) (Q4.tws 4 (v (flipN n lo (g.ws.getD 0 0)))) := fun lo hlo hlt v => by
    obtain ⟨g1, g2, g3⟩ := two hlo
    obtain ⟨k1, k2, k3⟩ := two g1
    generalize hf : flipN n lo (g.ws.getD 0 0) = hi at *
    have e1 : goP n g lo = [(lo, 0, 1), (hi, 0, 1)] := by
      rcases g3 with ⟨_, e⟩ | ⟨z, _⟩
      · exact e
      · omega
    have e2 : goP n g hi = [(lo, 0, 1), (hi, 4, 1)] := by
      rw [g2] at k3
      rcases k3 with ⟨z, _⟩ | ⟨_, e⟩
      · omega
      · exact e
    have other : ∀ r, r < 2 ^ n → r ≠ lo → r ≠ hi → ∀ t, t = lo ∨ t = hi → ∀ F, rowF (goP n g r) (v r) F t = F t := fun r hr n1 n2 t ht F => by
      obtain ⟨q1, q2, q3⟩ := two hr
      have d1 : flipN n r (g.ws.getD 0 0) ≠ lo := fun z => by
        rw [z, hf] at q2
        exact n2 q2.symm
      have d2 : flipN n r (g.ws.getD 0 0) ≠ hi := fun z => by
        rw [z, g2] at q2
        exact n1 q2.symm
      have t1 : t ≠ r := by rcases ht with rfl | rfl <;> omega
      have t2 : t ≠ flipN n r (g.ws.getD 0 0) := by rcases ht with rfl | rfl <;> omega
      rcases q3 with ⟨_, e⟩ | ⟨_, e⟩
      · rw [e]
        show addF (addF F r _) (flipN n r (g.ws.getD 0 0)) _ t = F t
        unfold addF
        rw [if_neg t2, if_neg t1]
      · rw [e]
        show addF (addF F (flipN n r (g.ws.getD 0 0)) _) r _ t = F t
        unfold addF
        rw [if_neg t1, if_neg t2]
    have hne : lo ≠ hi := by omega
    refine ⟨?_, ?_⟩
    · have c : ∀ r, r < 2 ^ n → ∀ F, rowF (goP n g r) (v r) F lo = Q4.add (F lo) (if r = lo then v lo else if r = hi then v hi else Q4.zero) := fun r hr F => by
        by_cases a : r = lo
        · subst a
          rw [if_pos rfl, e1]
          show addF (addF F r _) hi _ r = _
          unfold addF
          rw [if_neg hne, if_pos rfl]
          rfl
        · by_cases b : r = hi
          · subst b
            rw [if_neg a, if_pos rfl, e2]
            show addF (addF F lo _) r _ lo = _
            unfold addF
            rw [if_neg hne, if_pos rfl]
            rfl
          · rw [if_neg a, if_neg b, other r hr a b lo (.inl rfl), Q4.add_zero]
      rw [lin_at c, sum_two hlt g1 fun r _ a b => by rw [if_neg a, if_neg b], if_pos rfl, if_neg (Ne.symm hne), if_pos rfl]
    · have c : ∀ r, r < 2 ^ n → ∀ F, rowF (goP n g r) (v r) F hi = Q4.add (F hi) (if r = lo then v lo else if r = hi then Q4.tws 4 (v hi) else Q4.zero) := fun r hr F => by
        by_cases a : r = lo
        · subst a
          rw [if_pos rfl, e1]
          show addF (addF F r _) hi _ hi = _
          unfold addF
          rw [if_pos rfl, if_neg (Ne.symm hne)]
          rfl
        · by_cases b : r = hi
          · subst b
            rw [if_neg a, if_pos rfl, e2]
            show addF (addF F lo _) r _ r = _
            unfold addF
            rw [if_pos rfl, if_neg (Ne.symm hne)]
          · rw [if_neg a, if_neg b, other r hr a b hi (.inr rfl), Q4.add_zero]
      rw [lin_at c, sum_two hlt g1 fun r _ a b => by rw [if_neg a, if_neg b], if_pos rfl, if_neg (Ne.symm hne), if_pos rfl]
  obtain ⟨f1, f2, f3⟩ := two ht
  rcases f3 with ⟨hlt, _⟩ | ⟨hlt, _⟩
  · exact ⟨t, _, hlt, f1, .inl ⟨rfl, rfl⟩, main t ht hlt⟩
  · have m := main _ f1 (by rw [f2]; exact hlt)
    rw [f2] at m
    exact ⟨_, t, hlt, ht, .inr ⟨rfl, rfl⟩, m⟩
theorem lin_bd {B : Nat} {v : Nat → Q4} (hv : ∀ r, r < 2 ^ n → (v r).Bd B) : ∀ t, t < 2 ^ n → (linF (goP n g) v (2 ^ n) t).Bd (2 * B) := fun t ht => by
  by_cases hh : g.w = .h
  · obtain ⟨lo, hi, h1, h2, h3, h4⟩ := lin_h hn h hh ht
    obtain ⟨h5, h6⟩ := h4 v
    have b1 := add_bd (hv lo (by omega)) (hv hi h2)
    have b2 := add_bd (hv lo (by omega)) (tws_bd 4 (hv hi h2))
    rcases h3 with ⟨rfl, _⟩ | ⟨rfl, _⟩
    · rw [h5]
      exact bd_mono b1 (by omega)
    · rw [h6]
      exact bd_mono b2 (by omega)
  · obtain ⟨r, τ, u, h1, _, _, _, _, _, h2⟩ := lin_p hn h hh ht
    rw [h2 v]
    exact bd_mono (tws_bd τ (hv r h1)) (by omega)
/-- done and undone -/
theorem lin_back (v : Nat → Q4) : ∀ t, t < 2 ^ n → linF (goP n g.back) (linF (goP n g) v (2 ^ n)) (2 ^ n) t = Q4.rts (2 * g.ro) (v t) := fun t ht => by
  by_cases hh : g.w = .h
  · have hb : g.back = g := by
      obtain ⟨w, ws⟩ := g
      cases hh
      rfl
    rw [hb, show g.ro = 1 from if_pos hh]
    obtain ⟨lo, hi, h1, h2, h3, h4⟩ := lin_h hn h hh ht
    obtain ⟨h5, h6⟩ := h4 v
    obtain ⟨h7, h8⟩ := h4 (linF (goP n g) v (2 ^ n))
    rw [h5, h6] at h7 h8
    rw [Q4.rts2]
    rcases h3 with ⟨rfl, _⟩ | ⟨rfl, _⟩
    · rw [h7, Q4.tws4]
      apply Q4.ext' <;> simp only [Q4.add] <;> omega
    · rw [h8, Q4.tws4, Q4.tws4]
      apply Q4.ext' <;> simp only [Q4.add] <;> omega
  · have hb : g.back.w ≠ .h := by
      obtain ⟨w, ws⟩ := g
      cases w <;> first | exact absurd rfl hh | exact fun z => nomatch z
    rw [show g.ro = 0 from if_neg hh]
    obtain ⟨r, τ, u, h1, hτ, hu, hs, e1, e2, h2⟩ := lin_p hn (back_ok h) hb ht
    rw [back_back] at e2
    rw [h2]
    obtain ⟨r', τ', u', k1, kτ, ku, ks, f1, f2, k2⟩ := lin_p hn h hh h1
    rw [k2]
    rw [e1] at f2
    cases f2
    exact Q4.tws_back hτ kτ (by omega) _
/-- inner numbers stay -/
theorem lin_inner (v u : Nat → Q4) : sumTo (fun t => Q4.mul (linF (goP n g) v (2 ^ n) t).conj (linF (goP n g) u (2 ^ n) t)) (2 ^ n) = Q4.dbl g.ro (sumTo (fun r => Q4.mul (v r).conj (u r)) (2 ^ n)) := by
  by_cases hh : g.w = .h
  · rw [show g.ro = 1 from if_pos hh]
    have inv : ∀ t, t < 2 ^ n → flipN n t (g.ws.getD 0 0) < 2 ^ n ∧ flipN n (flipN n t (g.ws.getD 0 0)) (g.ws.getD 0 0) = t := fun t ht => by
      have := gOk_of hn h ht
      unfold gOk at this
      rw [Bool.and_eq_true, if_pos hh] at this
      have a := this.2
      unfold hOk at a
      dsimp only at a
      rw [Bool.and_eq_true] at a
      obtain ⟨f1, f2, f3, f4⟩ := of_decide_eq_true a.1
      exact ⟨f1, f3⟩
    have pm := sum_perm (s := fun t => flipN n t (g.ws.getD 0 0)) (N := 2 ^ n) (fun r hr => (inv r hr).1) (fun r r' hr hr' e => by
      have e : flipN n r (g.ws.getD 0 0) = flipN n r' (g.ws.getD 0 0) := e
      rw [← (inv r hr).2, e, (inv r' hr').2]) fun t ht => ⟨_, (inv t ht).1, (inv t ht).2⟩
    have p1 := pm fun t => Q4.mul (linF (goP n g) v (2 ^ n) t).conj (linF (goP n g) u (2 ^ n) t)
    have p2 := pm fun r => Q4.mul (v r).conj (u r)
    have key : sumTo (fun t => Q4.add (Q4.mul (linF (goP n g) v (2 ^ n) t).conj (linF (goP n g) u (2 ^ n) t)) (Q4.mul (linF (goP n g) v (2 ^ n) (flipN n t (g.ws.getD 0 0))).conj (linF (goP n g) u (2 ^ n) (flipN n t (g.ws.getD 0 0))))) (2 ^ n) =
        sumTo (fun t => Q4.add (Q4.add (Q4.mul (v t).conj (u t)) (Q4.mul (v (flipN n t (g.ws.getD 0 0))).conj (u (flipN n t (g.ws.getD 0 0))))) (Q4.add (Q4.mul (v t).conj (u t)) (Q4.mul (v (flipN n t (g.ws.getD 0 0))).conj (u (flipN n t (g.ws.getD 0 0)))))) (2 ^ n) := sumTo_congr fun t ht => by
      obtain ⟨lo, hi, h1, h2, h3, h4⟩ := lin_h hn h hh ht
      obtain ⟨a1, a2⟩ := h4 v
      obtain ⟨b1, b2⟩ := h4 u
      rcases h3 with ⟨rfl, e⟩ | ⟨rfl, e⟩
      · rw [e, a1, a2, b1, b2, Q4.tws4, Q4.tws4]
        apply Q4.ext' <;> simp only [Q4.add, Q4.mul, Q4.conj] <;> grind
      · rw [e, a1, a2, b1, b2, Q4.tws4, Q4.tws4]
        apply Q4.ext' <;> simp only [Q4.add, Q4.mul, Q4.conj] <;> grind
    rw [sum_add, sum_add, sum_add, p1, p2] at key
    generalize sumTo (fun t => Q4.mul (linF (goP n g) v (2 ^ n) t).conj (linF (goP n g) u (2 ^ n) t)) (2 ^ n) = X at *
    generalize sumTo (fun r => Q4.mul (v r).conj (u r)) (2 ^ n) = Y at *
    simp only [Q4.add, Q4.mk.injEq] at key
    obtain ⟨k1, k2, k3, k4⟩ := key
    apply Q4.ext' <;> simp only [Q4.dbl] <;> omega
  · rw [show g.ro = 0 from if_neg hh]
    have hd : ∀ x : Q4, Q4.dbl 0 x = x := fun x => Q4.rts_two 0 x ▸ rfl
    rw [hd]
    have hb : g.back.w ≠ .h := by
      obtain ⟨w, ws⟩ := g
      cases w <;> first | exact absurd rfl hh | exact fun z => nomatch z
    let s : Nat → Nat := fun t => match goP n g.back t with
      | [(r, _, _)] => r
      | _ => 0
    have hs : ∀ t, t < 2 ^ n → s t < 2 ^ n ∧ Q4.mul (linF (goP n g) v (2 ^ n) t).conj (linF (goP n g) u (2 ^ n) t) = Q4.mul (v (s t)).conj (u (s t)) ∧ ∃ τ, goP n g (s t) = [(t, τ, 0)] := fun t ht => by
      obtain ⟨r, τ, w, h1, _, _, _, e1, e2, h2⟩ := lin_p hn h hh ht
      have e : s t = r := by
        show (match goP n g.back t with
          | [(r, _, _)] => r
          | _ => 0) = r
        rw [e2]
      rw [e, h2 v, h2 u, Q4.conj_tws]
      exact ⟨h1, rfl, τ, e1⟩
    rw [sumTo_congr fun t ht => (hs t ht).2.1]
    refine sum_perm (s := s) (fun t ht => (hs t ht).1) (fun t t' ht ht' e => ?_) (fun r hr => ?_) fun r => Q4.mul (v r).conj (u r)
    · obtain ⟨τ, e1⟩ := (hs t ht).2.2
      obtain ⟨τ', e2⟩ := (hs t' ht').2.2
      rw [e, e2] at e1
      cases e1
      rfl
    · obtain ⟨p, a, b, f1, f2, f3, f4, _, _⟩ := go_p hn h hr hh
      refine ⟨p, f2, ?_⟩
      show (match goP n g.back p with
        | [(r, _, _)] => r
        | _ => 0) = r
      rw [f4]
end
/-! ### states as vectors -/
def ovE (m : Nat) (e : E8) : E8 := low e.q (e.k + m)
/-- es: the numbers of v by root ** K -/
structure StV (N K B : Nat) (es : List E8) (v : Nat → Q4) : Prop where
  len : es.length = N
  at_ : ∀ r, r < N → es[r]? = some (low (v r) K)
  bd : ∀ r, r < N → (v r).Bd B
/-- on the way: fs stands for F by root ** K -/
structure FRel (N K : Nat) (fs : List E8) (F : Nat → Q4) : Prop where
  len : fs.length = N
  at_ : ∀ t, t < N → ∃ e, fs[t]? = some e ∧ Norm e ∧ Q4.Eqv e.q e.k (F t) K ∧ e.k ≤ K
theorem frel_start (N K : Nat) : FRel N K (List.replicate N cNOUGHT) (fun _ => Q4.zero) := by
  refine ⟨List.length_replicate .., fun t ht => ⟨cNOUGHT, by rw [List.getElem?_replicate, if_pos ht], drawn_nought.norm, ?_, Nat.zero_le _⟩⟩
  show Q4.rts K Q4.zero = Q4.rts 0 Q4.zero
  rw [Q4.rts_zero]
  rfl
theorem sum_same (x y : Q4) (k : Nat) : Q4.sum x k y k = Q4.add x y := by
  unfold Q4.sum
  rw [Nat.max_self, Nat.sub_self]
  rfl
theorem part_eqv {e : E8} {x : Q4} {K : Nat} (h : Q4.Eqv e.q e.k x K) (t m : Nat) : Q4.Eqv (ovE m (tnE t e)).q (ovE m (tnE t e)).k (Q4.tws t x) (K + m) :=
  (low_eqv _ _).trans (Q4.eqv_shift m (Q4.eqv_tws t h))
theorem pl_eqv {e f : E8} {x y : Q4} {K : Nat} (h1 : Q4.Eqv e.q e.k x K) (h2 : Q4.Eqv f.q f.k y K) : Q4.Eqv (plE e f).q (plE e f).k (Q4.add x y) K := by
  have := Q4.eqv_sum h1 h2
  rw [Nat.max_self, sum_same] at this
  exact (low_eqv _ _).trans this
theorem frel_add {N K : Nat} {fs : List E8} {F : Nat → Q4} (h : FRel N K fs F) {t : Nat} {f p : E8} {x : Q4} (hf : fs[t]? = some f) (hp : Q4.Eqv p.q p.k x K) (hk : p.k ≤ K) : FRel N K (fs.set t (plE f p)) (addF F t x) := by
  have htl := (List.getElem?_eq_some_iff.mp hf).1
  refine ⟨by rw [List.length_set]; exact h.len, fun s hs => ?_⟩
  obtain ⟨e, h1, h2, h3, h4⟩ := h.at_ s hs
  unfold addF
  by_cases c : s = t
  · subst c
    rw [hf] at h1
    cases h1
    rw [if_pos rfl]
    exact ⟨_, List.getElem?_set_self htl, plE_norm _ _, pl_eqv h3 hp, plE_k h4 hk⟩
  · rw [if_neg c]
    exact ⟨e, by rw [List.getElem?_set_ne (Ne.symm c)]; exact h1, h2, h3, h4⟩
theorem frel_end {N K B : Nat} {fs : List E8} {F : Nat → Q4} (h : FRel N K fs F) (hb : ∀ t, t < N → (F t).Bd B) : StV N K B fs F := by
  refine ⟨h.len, fun r hr => ?_, hb⟩
  obtain ⟨e, h1, h2, h3, _⟩ := h.at_ r hr
  rw [h1, low_unique h2 h3]
theorem frel_zero {N K : Nat} {fs : List E8} {F : Nat → Q4} (os : List Tr) (h : FRel N K fs F) : FRel N K fs (rowF os Q4.zero F) := by
  have : ∀ (os : List Tr) (F : Nat → Q4), rowF os Q4.zero F = F := fun os => by
    induction os with
    | nil => exact fun _ => rfl
    | cons o os ih =>
      intro F
      show rowF os Q4.zero (addF F o.1 (Q4.tws o.2.1 Q4.zero)) = F
      have hz : ∀ m, Q4.tws m Q4.zero = Q4.zero := fun m => by
        induction m with
        | zero => rfl
        | succ m ih => exact ih
      rw [hz, ih]
      funext s
      unfold addF
      split
      · rw [Q4.add_zero]
      · rfl
  rw [this]
  exact h
theorem low_nought {x : Q4} {K : Nat} (h : low x K = cNOUGHT) : x = Q4.zero := by
  have := low_eqv x K
  rw [h] at this
  have : Q4.rts K Q4.zero = Q4.rts 0 x := this
  rw [Q4.rts_zero] at this
  exact this.symm
theorem StV.good {N K B : Nat} {es : List E8} {v : Nat → Q4} (h : StV N K B es v) : ∀ e ∈ es, Norm e ∧ e.k ≤ K ∧ e.q.Bd B := fun e he => by
  obtain ⟨i, hi⟩ := List.mem_iff_getElem?.mp he
  have hlt := (List.getElem?_eq_some_iff.mp hi).1
  rw [h.len] at hlt
  rw [h.at_ i hlt] at hi
  cases hi
  exact ⟨low_norm _ _, low_le _ _, low_bd _ (h.bd i hlt)⟩
theorem StV.eq {N K B C : Nat} {es fs : List E8} {v u : Nat → Q4} (h1 : StV N K B es v) (h2 : StV N K C fs u) (h : ∀ r, r < N → v r = u r) : es = fs := by
  refine List.ext_getElem? fun i => ?_
  by_cases hi : i < N
  · rw [h1.at_ i hi, h2.at_ i hi, h i hi]
  · rw [List.getElem?_eq_none (by rw [h1.len]; omega), List.getElem?_eq_none (by rw [h2.len]; omega)]
/-- by more roots -/
theorem StV.up {N K B : Nat} {es : List E8} {v : Nat → Q4} (h : StV N K B es v) (m : Nat) : StV N (K + m) (2 ^ m * B) es fun r => Q4.rts m (v r) := by
  refine ⟨h.len, fun r hr => ?_, fun r hr => ?_⟩
  · rw [h.at_ r hr]
    congr 1
    exact low_unique (low_norm _ _) ((low_eqv _ _).trans (Q4.eqv_up m (v r) K).symm)
  · have : ∀ (m : Nat) (x : Q4), x.Bd B → (Q4.rts m x).Bd (2 ^ m * B) := fun m => by
      induction m with
      | zero => intro x hx; exact bd_mono hx (by omega)
      | succ m ih =>
        intro x hx
        rw [Q4.rts_succ]
        exact bd_mono (rt_bd (ih x hx)) (by rw [Nat.pow_succ]; have : 2 ^ m * 2 * B = 2 * (2 ^ m * B) := by grind
                                            omega)
    exact this m _ (h.bd r hr)
theorem stv_drawn {N : Nat} {es : List E8} (hl : es.length = N) (h : ∀ e ∈ es, Drawn e) : ∃ v, StV N 6 (2 ^ 262) es v := by
  refine ⟨fun r => match es[r]? with
    | some e => Q4.rts (6 - e.k) e.q
    | none => Q4.zero, hl, fun r hr => ?_, fun r hr => ?_⟩
  · have h1 : es[r]? = some es[r] := List.getElem?_eq_getElem (by omega)
    rw [h1]
    dsimp only
    have hd := h _ (List.getElem_mem (by omega : r < es.length))
    congr 1
    refine low_unique hd.norm ?_
    have hk := hd.k
    have := (Q4.eqv_up (6 - es[r].k) es[r].q es[r].k).symm
    rw [show es[r].k + (6 - es[r].k) = 6 by omega] at this
    exact this
  · have h1 : es[r]? = some es[r] := List.getElem?_eq_getElem (by omega)
    rw [h1]
    dsimp only
    have hd := h _ (List.getElem_mem (by omega : r < es.length))
    have : ∀ (m : Nat) (x : Q4) (B : Nat), x.Bd B → (Q4.rts m x).Bd (2 ^ m * B) := fun m => by
      induction m with
      | zero => intro x B hx; exact bd_mono hx (by omega)
      | succ m ih =>
        intro x B hx
        rw [Q4.rts_succ]
        exact bd_mono (rt_bd (ih x B hx)) (by rw [Nat.pow_succ]; have : 2 ^ m * 2 * B = 2 * (2 ^ m * B) := by grind
                                              omega)
    refine bd_mono (this _ _ _ hd.bd) ?_
    rw [← Nat.pow_add]
    exact Nat.pow_le_pow_right (by decide) (by omega)
/-- not so great that anything is out of reach -/
theorem StV.fit {N K B : Nat} {es : List E8} {v : Nat → Q4} (h : StV N K B es v) (hK : K ≤ 1000) (hB : B ≤ 2 ^ 5000) : ∀ e ∈ es, e.Good := fun e he => by
  obtain ⟨h1, h2, h3⟩ := h.good e he
  exact ⟨e8_sm h3 (Nat.lt_of_le_of_lt hB (Nat.pow_lt_pow_right (by decide) (by decide))) (by omega), norm_low h1⟩
/-! ### lengths of vectors -/
def nP (x : Q4) : Int := x.a * x.a + x.b * x.b + x.c * x.c + x.d * x.d
def nQ (x : Q4) : Int := x.a * x.b + x.b * x.c + x.c * x.d - x.d * x.a
theorem nP_rt (x : Q4) : nP x.rt = 2 * nP x := by simp only [nP, Q4.rt]; grind
theorem nQ_rt (x : Q4) : nQ x.rt = 2 * nQ x := by simp only [nQ, Q4.rt]; grind
theorem nP_rts : ∀ (m : Nat) (x : Q4), nP (Q4.rts m x) = 2 ^ m * nP x
  | 0, x => by show nP x = _; rw [Int.pow_zero, Int.one_mul]
  | m + 1, x => by rw [Q4.rts_succ, nP_rt, nP_rts m x, Int.pow_succ]; grind
theorem nQ_rts : ∀ (m : Nat) (x : Q4), nQ (Q4.rts m x) = 2 ^ m * nQ x
  | 0, x => by show nQ x = _; rw [Int.pow_zero, Int.one_mul]
  | m + 1, x => by rw [Q4.rts_succ, nQ_rt, nQ_rts m x, Int.pow_succ]; grind
theorem lowLen_up (k : Nat) (p q : Int) : ∀ j : Nat, lowLen (k + j) (p * 2 ^ j) (q * 2 ^ j) = lowLen k p q
  | 0 => by rw [Int.pow_zero, Int.mul_one, Int.mul_one]; rfl
  | j + 1 => by
    have e1 : p * 2 ^ (j + 1) = 2 * (p * 2 ^ j) := by rw [Int.pow_succ]; grind
    have e2 : q * 2 ^ (j + 1) = 2 * (q * 2 ^ j) := by rw [Int.pow_succ]; grind
    rw [← lowLen_up k p q j, e1, e2]
    show lowLen (k + j + 1) _ _ = _
    unfold lowLen
    rw [if_pos ⟨by omega, by omega⟩, show 2 * (p * 2 ^ j) / 2 = p * 2 ^ j by omega, show 2 * (q * 2 ^ j) / 2 = q * 2 ^ j by omega]
    cases k + j <;> rfl
theorem lowLen_val : ∀ (k : Nat) (p q : Int), (lowLen k p q).k ≤ k ∧ p = (lowLen k p q).p * 2 ^ (k - (lowLen k p q).k) ∧ q = (lowLen k p q).q * 2 ^ (k - (lowLen k p q).k)
  | 0, p, q => ⟨Nat.le_refl _, by simp [lowLen], by simp [lowLen]⟩
  | k + 1, p, q => by
    unfold lowLen
    split
    · rename_i h
      obtain ⟨h0, h1, h2⟩ := lowLen_val k (p / 2) (q / 2)
      refine ⟨by omega, ?_, ?_⟩
      · rw [show k + 1 - (lowLen k (p / 2) (q / 2)).k = (k - (lowLen k (p / 2) (q / 2)).k) + 1 by omega, Int.pow_succ, ← Int.mul_assoc, ← h1]
        omega
      · rw [show k + 1 - (lowLen k (p / 2) (q / 2)).k = (k - (lowLen k (p / 2) (q / 2)).k) + 1 by omega, Int.pow_succ, ← Int.mul_assoc, ← h2]
        omega
    · exact ⟨Nat.le_refl _, by simp, by simp⟩
theorem pow2_ne (k : Nat) : (2 : Int) ^ k ≠ 0 := Int.ne_of_gt (Int.pow_pos (by decide))
theorem sq_at {e : E8} {x : Q4} {K : Nat} (hk : e.k ≤ K) (h : Q4.Eqv e.q e.k x K) : (square e).p * 2 ^ (K - (square e).k) = nP x ∧ (square e).q * 2 ^ (K - (square e).k) = nQ x ∧ (square e).k ≤ K := by
  obtain ⟨h0, h1, h2⟩ := lowLen_val e.k (nP e.q) (nQ e.q)
  have hs : square e = lowLen e.k (nP e.q) (nQ e.q) := rfl
  rw [← hs] at h0 h1 h2
  unfold Q4.Eqv at h
  have p1 := congrArg nP h
  have q1 := congrArg nQ h
  rw [nP_rts, nP_rts] at p1
  rw [nQ_rts, nQ_rts] at q1
  have hK : (2 : Int) ^ K = 2 ^ e.k * 2 ^ (K - e.k) := by rw [← Int.pow_add]; congr 1; omega
  rw [hK, Int.mul_assoc] at p1 q1
  have p2 := Int.eq_of_mul_eq_mul_left (pow2_ne e.k) p1
  have q2 := Int.eq_of_mul_eq_mul_left (pow2_ne e.k) q1
  have hs2 : (2 : Int) ^ (K - (square e).k) = 2 ^ (e.k - (square e).k) * 2 ^ (K - e.k) := by rw [← Int.pow_add]; congr 1; omega
  refine ⟨?_, ?_, by omega⟩
  · rw [hs2, ← Int.mul_assoc, ← h1, Int.mul_comm, p2]
  · rw [hs2, ← Int.mul_assoc, ← h2, Int.mul_comm, q2]
def inV (v u : Nat → Q4) (N : Nat) : Q4 := sumTo (fun r => Q4.mul (v r).conj (u r)) N
theorem inV_p (v : Nat → Q4) : ∀ N : Nat, (inV v v N).a = ((List.range N).map fun r => nP (v r)).sum ∧ (inV v v N).b = ((List.range N).map fun r => nQ (v r)).sum
  | 0 => ⟨rfl, rfl⟩
  | N + 1 => by
    obtain ⟨h1, h2⟩ := inV_p v N
    rw [List.range_succ, List.map_append, List.map_append, List.sum_append, List.sum_append, ← h1, ← h2, List.map_singleton, List.map_singleton, List.sum_singleton, List.sum_singleton]
    refine ⟨?_, ?_⟩
    · show (inV v v N).a + (Q4.mul (v N).conj (v N)).a = _
      congr 1
      simp only [Q4.mul, Q4.conj, nP]
      grind
    · show (inV v v N).b + (Q4.mul (v N).conj (v N)).b = _
      congr 1
      simp only [Q4.mul, Q4.conj, nQ]
      grind
theorem StV.list {N K B : Nat} {es : List E8} {v : Nat → Q4} (h : StV N K B es v) : es = (List.range N).map fun r => low (v r) K := by
  refine List.ext_getElem? fun i => ?_
  rw [List.getElem?_map]
  by_cases hi : i < N
  · rw [h.at_ i hi, List.getElem?_range hi]
    rfl
  · rw [List.getElem?_eq_none (by rw [h.len]; omega), List.getElem?_eq_none (by rw [List.length_range]; omega)]
    rfl
/-- the length of a state by its vector -/
theorem StV.length {N K B : Nat} {es : List E8} {v : Nat → Q4} (h : StV N K B es v) : lenSum (es.map square) = lowLen K (inV v v N).a (inV v v N).b := by
  have hsq : ∀ r, (square (low (v r) K)).p * 2 ^ (K - (square (low (v r) K)).k) = nP (v r) ∧ (square (low (v r) K)).q * 2 ^ (K - (square (low (v r) K)).k) = nQ (v r) ∧ (square (low (v r) K)).k ≤ K := fun r => sq_at (low_le _ _) (low_eqv _ _)
  have hk : ∀ l ∈ es.map square, l.k ≤ K := fun l hl => by
    rw [h.list, List.map_map] at hl
    obtain ⟨r, _, rfl⟩ := List.mem_map.mp hl
    exact (hsq r).2.2
  have hK : kmax (es.map square) ≤ K := kmax_le hk
  rw [lenSum_eq, ← lowLen_up _ _ _ (K - kmax (es.map square)), ← sumP_scale hK fun l hl => le_kmax hl, ← sumQ_scale hK fun l hl => le_kmax hl, show kmax (es.map square) + (K - kmax (es.map square)) = K by omega]
  obtain ⟨i1, i2⟩ := inV_p v N
  rw [i1, i2]
  congr 1
  · unfold sumP
    rw [h.list, List.map_map, List.map_map]
    congr 1
    exact List.map_congr_left fun r _ => (hsq r).1
  · unfold sumQ
    rw [h.list, List.map_map, List.map_map]
    congr 1
    exact List.map_congr_left fun r _ => (hsq r).2.1
theorem sq_bd {e : E8} {B : Nat} (h : e.q.Bd B) (hB : B ≤ 2 ^ 5000) (hk : e.k ≤ 1000) : (square e).Ok := by
  obtain ⟨h1, h2, h3, h4⟩ := h
  have h1 : e.a.natAbs ≤ B := h1
  have h2 : e.b.natAbs ≤ B := h2
  have h3 : e.c.natAbs ≤ B := h3
  have h4 : e.d.natAbs ≤ B := h4
  have mb : ∀ x y : Int, x.natAbs ≤ B → y.natAbs ≤ B → (x * y).natAbs ≤ B * B := fun x y hx hy => by
    rw [Int.natAbs_mul]
    exact Nat.mul_le_mul hx hy
  have m1 := mb _ _ h1 h1
  have m2 := mb _ _ h2 h2
  have m3 := mb _ _ h3 h3
  have m4 := mb _ _ h4 h4
  have m5 := mb _ _ h1 h2
  have m6 := mb _ _ h2 h3
  have m7 := mb _ _ h3 h4
  have m8 := mb _ _ h4 h1
  have l1 : (e.a * e.a + e.b * e.b + e.c * e.c + e.d * e.d).natAbs ≤ 4 * (B * B) := by omega
  have l2 : (e.a * e.b + e.b * e.c + e.c * e.d - e.d * e.a).natAbs ≤ 4 * (B * B) := by omega
  obtain ⟨g1, g2, g3⟩ := lowLen_bd e.k _ _ l1 l2
  have hBB : 4 * (B * B) < 2 ^ 10003 := by
    have a := Nat.mul_le_mul hB hB
    have b : (2 : Nat) ^ 10003 = 8 * (2 ^ 5000 * 2 ^ 5000) := by rw [← Nat.pow_add, show 10003 = 3 + (5000 + 5000) from rfl, Nat.pow_add]
    have c : 0 < (2 : Nat) ^ 5000 * 2 ^ 5000 := Nat.mul_pos (Nat.pos_of_ne_zero (by simp)) (Nat.pos_of_ne_zero (by simp))
    generalize (2 : Nat) ^ 5000 * 2 ^ 5000 = P at *
    omega
  exact ⟨Nat.le_trans (intBits_le (Nat.lt_of_le_of_lt g1 hBB)) (by decide), Nat.le_trans (intBits_le (Nat.lt_of_le_of_lt g2 hBB)) (by decide), Nat.le_trans g3 (by omega)⟩
theorem lin_len {n : Nat} {g : Gt} (hn : n ≤ 5) (h : g.Ok n) (v : Nat → Q4) (K : Nat) : lowLen (K + g.ro) (inV (linF (goP n g) v (2 ^ n)) (linF (goP n g) v (2 ^ n)) (2 ^ n)).a (inV (linF (goP n g) v (2 ^ n)) (linF (goP n g) v (2 ^ n)) (2 ^ n)).b = lowLen K (inV v v (2 ^ n)).a (inV v v (2 ^ n)).b := by
  have := lin_inner hn h v v
  unfold inV
  rw [this]
  generalize sumTo (fun r => Q4.mul (v r).conj (v r)) (2 ^ n) = X
  show lowLen (K + g.ro) (2 ^ g.ro * X.a) (2 ^ g.ro * X.b) = _
  rw [Int.mul_comm, Int.mul_comm _ X.b, lowLen_up]
/-! ### inner numbers of vectors -/
theorem ins_rows {K : Nat} (v u : Nat → Q4) : ∀ N : Nat, ∀ a, a = (((List.range N).map fun r => low (v r) K).zip ((List.range N).map fun r => low (u r) K)).foldl insStep cNOUGHT → Norm a ∧ Q4.Eqv a.q a.k (inV v u N) (K + K)
  | 0, a, h => by
    subst h
    refine ⟨drawn_nought.norm, ?_⟩
    show Q4.rts (K + K) Q4.zero = Q4.rts 0 Q4.zero
    rw [Q4.rts_zero]
    rfl
  | N + 1, a, h => by
    rw [List.range_succ, List.map_append, List.map_append, List.map_singleton, List.map_singleton, List.zip_append (by rw [List.length_map, List.length_map]), List.foldl_append] at h
    obtain ⟨_, h2⟩ := ins_rows v u N _ rfl
    subst h
    refine ⟨plE_norm _ _, pl_eqv h2 ((low_eqv _ _).trans (Q4.eqv_mul (Q4.eqv_conj (low_eqv (v N) K)) (low_eqv (u N) K)))⟩
theorem StV.inner {N K B C : Nat} {es fs : List E8} {v u : Nat → Q4} (h1 : StV N K B es v) (h2 : StV N K C fs u) : insE es fs = low (inV v u N) (K + K) := by
  have h := ins_rows (K := K) v u N _ rfl
  rw [← h1.list, ← h2.list] at h
  exact low_unique h.1 h.2
theorem low_dbl (m K : Nat) (x : Q4) : low (Q4.dbl m x) (K + 2 * m) = low x K := by
  rw [← Q4.rts_two]
  exact (low_unique (low_norm _ _) ((low_eqv _ _).trans (Q4.eqv_up (2 * m) x K).symm)).symm
/-! ### rows of gates -/
def appV (m : Nat) (v : Nat → Q4) (G : List Gt) : Nat → Q4 := G.foldl (fun v g => linF (goP m g) v (2 ^ m)) v
def roS (G : List Gt) : Nat := (G.map Gt.ro).sum
def stOf (m : Nat) (v : Nat → Q4) (G : List Gt) : List E8 := (List.range (2 ^ m)).map fun r => low (appV m v G r) (6 + roS G)
theorem appV_snoc (m : Nat) (v : Nat → Q4) (G : List Gt) (g : Gt) : appV m v (G ++ [g]) = linF (goP m g) (appV m v G) (2 ^ m) := by
  unfold appV
  rw [List.foldl_append]
  rfl
theorem roS_snoc (G : List Gt) (g : Gt) : roS (G ++ [g]) = roS G + g.ro := by
  unfold roS
  rw [List.map_append, List.sum_append, List.map_singleton, List.sum_singleton]
theorem ro_le (g : Gt) : g.ro ≤ 1 := by unfold Gt.ro; split <;> omega
theorem roS_le : ∀ G : List Gt, roS G ≤ G.length
  | [] => Nat.le_refl _
  | g :: G => by
    have := roS_le G
    have h := ro_le g
    have e : roS (g :: G) = g.ro + roS G := by unfold roS; rw [List.map_cons, List.sum_cons]
    rw [e, List.length_cons]
    omega
/-- every gate stands on these wires -/
def OkG (m : Nat) (G : List Gt) : Prop := ∀ g ∈ G, g.Ok m
theorem snoc_ind {α : Type} {P : List α → Prop} (h0 : P []) (h : ∀ (l : List α) (x : α), P l → P (l ++ [x])) : ∀ l, P l := fun l => by
  have : ∀ l : List α, P l.reverse := fun l => by
    induction l with
    | nil => exact h0
    | cons x l ih => rw [List.reverse_cons]; exact h _ _ ih
  have := this l.reverse
  rwa [List.reverse_reverse] at this
theorem appV_bd {m : Nat} (h5 : m ≤ 5) {v : Nat → Q4} (hv : ∀ r, r < 2 ^ m → (v r).Bd (2 ^ 262)) : ∀ G : List Gt, OkG m G → ∀ r, r < 2 ^ m → (appV m v G r).Bd (2 ^ (262 + G.length)) :=
  snoc_ind (fun _ => hv) fun G g ih hG => by
    rw [appV_snoc, List.length_append]
    have := lin_bd h5 (hG g (by simp)) (ih fun x hx => hG x (by simp [hx]))
    rw [show 2 ^ (262 + (G.length + [g].length)) = 2 * 2 ^ (262 + G.length) from by rw [List.length_singleton, ← Nat.add_assoc, Nat.pow_succ, Nat.mul_comm]]
    exact this
theorem stv_of {m : Nat} (h5 : m ≤ 5) {v : Nat → Q4} (hv : ∀ r, r < 2 ^ m → (v r).Bd (2 ^ 262)) (G : List Gt) (hG : OkG m G) : StV (2 ^ m) (6 + roS G) (2 ^ (262 + G.length)) (stOf m v G) (appV m v G) := by
  refine ⟨?_, fun r hr => ?_, appV_bd h5 hv G hG⟩
  · unfold stOf
    rw [List.length_map, List.length_range]
  · unfold stOf
    rw [List.getElem?_map, List.getElem?_range hr]
    rfl
theorem stOf_nil {m : Nat} {es : List E8} {v : Nat → Q4} (h : StV (2 ^ m) 6 (2 ^ 262) es v) : stOf m v [] = es := h.list.symm
theorem stOf_nice {m : Nat} (h5 : m ≤ 5) {v : Nat → Q4} (hv : ∀ r, r < 2 ^ m → (v r).Bd (2 ^ 262)) (G : List Gt) (hG : OkG m G) (hl : G.length ≤ 60) : ∀ e ∈ stOf m v G, Nice e := fun e he => by
  obtain ⟨h1, h2, h3⟩ := (stv_of h5 hv G hG).good e he
  have := roS_le G
  exact ⟨h1, bd_mono h3 (Nat.pow_le_pow_right (by decide) (by omega)), by omega⟩
theorem len_of {m : Nat} (h5 : m ≤ 5) {v : Nat → Q4} (hv : ∀ r, r < 2 ^ m → (v r).Bd (2 ^ 262)) : ∀ G : List Gt, OkG m G → lenSum ((stOf m v G).map square) = lenSum ((stOf m v []).map square) :=
  snoc_ind (fun _ => rfl) fun G g ih hG => by
    have hG' : OkG m G := fun x hx => hG x (by simp [hx])
    rw [← ih hG', (stv_of h5 hv _ hG).length, (stv_of h5 hv _ hG').length, appV_snoc, roS_snoc, ← Nat.add_assoc, lin_len h5 (hG g (by simp))]
theorem inner_of {m : Nat} (h5 : m ≤ 5) {v u : Nat → Q4} (hv : ∀ r, r < 2 ^ m → (v r).Bd (2 ^ 262)) (hu : ∀ r, r < 2 ^ m → (u r).Bd (2 ^ 262)) : ∀ G : List Gt, OkG m G → insE (stOf m v G) (stOf m u G) = insE (stOf m v []) (stOf m u []) :=
  snoc_ind (fun _ => rfl) fun G g ih hG => by
    have hG' : OkG m G := fun x hx => hG x (by simp [hx])
    rw [← ih hG', (stv_of h5 hv _ hG).inner (stv_of h5 hu _ hG), (stv_of h5 hv _ hG').inner (stv_of h5 hu _ hG'), appV_snoc, appV_snoc, roS_snoc]
    have := lin_inner h5 (hG g (by simp)) (appV m v G) (appV m u G)
    unfold inV
    rw [this, show 6 + (roS G + g.ro) + (6 + (roS G + g.ro)) = 6 + roS G + (6 + roS G) + 2 * g.ro by omega, low_dbl]
end Dv.Law
end
section
set_option Elab.async false
set_option maxRecDepth 100000
set_option linter.all false
/-! Equations of what came later: dicts as values, ranges with a step, tuples whose object is known -/
namespace Dv
open PySem PySem.Spec L2
theorem evX (Φ : Nat → Fn) (np : Nat) (ρ : En) :
  (∀ kvs, ev Φ (.dsp kvs) ρ = .ok (.val (.dat (.dct (kvs.map fun p => (dkey p.1).getD (.inl 0)) (kvs.map (·.2))))) ρ) ∧
  (∀ o k d, ev Φ (.dgt o k d) ρ = M.bnd (ev Φ o) (fun r => (getM r).bnd fun x => match x with
    | .dat (.dct ks ds) => (ev Φ k).bnd fun q => (ev Φ d).bnd fun u => (getM q).bnd fun y => (getM u).bnd fun z => (M.opt (dctAt ks ds y.frz)).bnd fun o => match o with
      | some v => M.ret (.val (.dat v))
      | none => match z with
        | .dat d => M.ret (.val (.dat d))
        | _ => fun _ => .stuck
    | _ => fun _ => .stuck) ρ) ∧
  (∀ o k, ev Φ (.dg1 o k) ρ = M.bnd (ev Φ o) (fun r => (getM r).bnd fun x => match x with
    | .dat (.dct ks ds) => (ev Φ k).bnd fun q => (getM q).bnd fun y => (M.opt (dctAt ks ds y.frz)).bnd fun o => match o with
      | some v => M.ret (.val (.dat v))
      | none => M.ret (.val (.dat .non))
    | _ => fun _ => .stuck) ρ) ∧
  (∀ o k, ev Φ (.dxv o k) ρ = M.bnd (ev Φ o) (fun r => (ev Φ k).bnd fun q => (getM r).bnd fun x => (getM q).bnd fun y => match x with
    | .dat (.dct ks ds) => (M.opt ((dctAt ks ds y.frz).bind id)).bnd fun v => M.ret (.val (.dat v))
    | _ => fun _ => .stuck) ρ) ∧
  (∀ b k o, ev Φ (.din b k o) ρ = M.bnd (ev Φ k) (fun q => (ev Φ o).bnd fun r => (getM q).bnd fun y => (getM r).bnd fun x => match x with
    | .dat (.dct ks ds) => (M.opt (dctAt ks ds y.frz)).bnd fun o => M.ret (.val (.dat (.bl (o.isSome == b))))
    | _ => fun _ => .stuck) ρ) ∧
  (∀ b k o, evT Φ (.din b k o) ρ = M.bnd (ev Φ k) (fun q => (ev Φ o).bnd fun r => (getM q).bnd fun y => (getM r).bnd fun x => match x with
    | .dat (.dct ks ds) => (M.opt (dctAt ks ds y.frz)).bnd fun o => M.ret (o.isSome == b)
    | _ => fun _ => .stuck) ρ) ∧
  (∀ i f tb e, evS Φ np (.fsetK i f tb e) ρ = M.bnd ((ev Φ e).bnd takeM) (fun d => (varM i).bnd fun _ => (fsetKM i tb d).bnd fun _ => M.ret .nx) ρ) := by
  refine ⟨?_, ?_, ?_, ?_, ?_, ?_, ?_⟩ <;> intros <;> first | rfl | (simp only [ev, evT, evS, M.ret])
theorem evY (Φ : Nat → Fn) (ρ : En) :
  (∀ kvs, ev Φ (.dsp kvs) ρ = .ok (.val (.dat (.dct (kvs.map fun p => (dkey p.1).getD (.inl 0)) (kvs.map (·.2))))) ρ) ∧
  (∀ o k d, ev Φ (.dgt o k d) ρ = M.bnd (ev Φ o) (fun r => (getM r).bnd fun x => match x with
    | .dat (.dct ks ds) => (ev Φ k).bnd fun q => (ev Φ d).bnd fun u => (getM q).bnd fun y => (getM u).bnd fun z => (M.opt (dctAt ks ds y.frz)).bnd fun o => match o with
      | some v => M.ret (.val (.dat v))
      | none => match z with
        | .dat d => M.ret (.val (.dat d))
        | _ => fun _ => .stuck
    | _ => fun _ => .stuck) ρ) ∧
  (∀ o k, ev Φ (.dg1 o k) ρ = M.bnd (ev Φ o) (fun r => (getM r).bnd fun x => match x with
    | .dat (.dct ks ds) => (ev Φ k).bnd fun q => (getM q).bnd fun y => (M.opt (dctAt ks ds y.frz)).bnd fun o => match o with
      | some v => M.ret (.val (.dat v))
      | none => M.ret (.val (.dat .non))
    | _ => fun _ => .stuck) ρ) ∧
  (∀ o k, ev Φ (.dxv o k) ρ = M.bnd (ev Φ o) (fun r => (ev Φ k).bnd fun q => (getM r).bnd fun x => (getM q).bnd fun y => match x with
    | .dat (.dct ks ds) => (M.opt ((dctAt ks ds y.frz).bind id)).bnd fun v => M.ret (.val (.dat v))
    | _ => fun _ => .stuck) ρ) ∧
  (∀ b k o, ev Φ (.din b k o) ρ = M.bnd (ev Φ k) (fun q => (ev Φ o).bnd fun r => (getM q).bnd fun y => (getM r).bnd fun x => match x with
    | .dat (.dct ks ds) => (M.opt (dctAt ks ds y.frz)).bnd fun o => M.ret (.val (.dat (.bl (o.isSome == b))))
    | _ => fun _ => .stuck) ρ) ∧
  (∀ b k o, evT Φ (.din b k o) ρ = M.bnd (ev Φ k) (fun q => (ev Φ o).bnd fun r => (getM q).bnd fun y => (getM r).bnd fun x => match x with
    | .dat (.dct ks ds) => (M.opt (dctAt ks ds y.frz)).bnd fun o => M.ret (o.isSome == b)
    | _ => fun _ => .stuck) ρ) := ⟨(evX Φ 0 ρ).1, (evX Φ 0 ρ).2.1, (evX Φ 0 ρ).2.2.1, (evX Φ 0 ρ).2.2.2.1, (evX Φ 0 ρ).2.2.2.2.1, (evX Φ 0 ρ).2.2.2.2.2.1⟩
theorem nuE :
  (∀ ds k, dctAt [] ds (.str k) = some none) ∧ (∀ a ks d ds b, dctAt (.inr a :: ks) (d :: ds) (.str b) = if a = b then some (some d) else dctAt ks ds (.str b)) ∧
  (∀ ds k, dctAt [] ds (.int k) = some none) ∧ (∀ a ks d ds b, dctAt (.inl a :: ks) (d :: ds) (.int b) = if a = b then some (some d) else dctAt ks ds (.int b)) ∧
  (∀ x, dkey (.str x) = some (.inr x)) ∧ (∀ x, dkey (.int x) = some (.inl x)) ∧ (∀ (a b : L2.Key), (some a).getD b = a) ∧
  (∀ ys, bi .tupleK [.lst ys] = some (.dat (.tpk ys))) ∧
  (∀ ys x, bm .indexT (.tpk ys) [x] = (idxD x ys).map fun j : Nat => .dat (.int (j : Int))) ∧ (∀ x, bmTy .indexT (.tpk x) = true) ∧
  (∀ ks ds t, isiD (.dct ks ds) t = some (baseAns "dict" t)) ∧
  (baseAns "dict" (.bt "int") = false) ∧ (baseAns "dict" (.bt "bool") = false) ∧ (baseAns "dict" (.bt "str") = false) ∧ (baseAns "dict" (.bt "tuple") = false) ∧ (baseAns "dict" (.bt "list") = false) ∧ (baseAns "dict" (.bt "ValueError") = false) ∧
  (∀ c s, baseAns "dict" (.cls c s) = false) ∧ (∀ c s, baseAns "dict" (.exc c s) = false) ∧
  (∀ ks ds, co .Is (.dct ks ds) .non = some false) ∧ (∀ ks ds, co .IsNot (.dct ks ds) .non = some true) := by
  refine ⟨?_, ?_, ?_, ?_, ?_, ?_, ?_, ?_, ?_, ?_, ?_, ?_, ?_, ?_, ?_, ?_, ?_, ?_, ?_, ?_, ?_⟩
  · intros; rfl
  · intro a ks d ds b
    show some ((((((Sum.inr a : L2.Key), d) :: ks.zip ds)).find? fun p => decide (p.1 = Sum.inr b)).map (·.2)) = _
    rw [List.find?_cons]
    by_cases h : a = b
    · rw [if_pos h, decide_eq_true (by rw [h])]
      rfl
    · rw [if_neg h, decide_eq_false (fun z => h (Sum.inr.inj z))]
      rfl
  · intros; rfl
  · intro a ks d ds b
    show some ((((((Sum.inl a : L2.Key), d) :: ks.zip ds)).find? fun p => decide (p.1 = Sum.inl b)).map (·.2)) = _
    rw [List.find?_cons]
    by_cases h : a = b
    · rw [if_pos h, decide_eq_true (by rw [h])]
      rfl
    · rw [if_neg h, decide_eq_false (fun z => h (Sum.inl.inj z))]
      rfl
  · intros; rfl
  · intros; rfl
  · intros; rfl
  · intros; rfl
  · intro ys x
    have e : bm .indexT (.tpk ys) [x] = ((idxD x ys).bind fun a => some (a : Int)).map fun j => .dat (.int j) := rfl
    rw [e]; cases idxD x ys <;> rfl
  all_goals first | decide | (intros; rfl)
theorem rng3_ok {Φ : Nat → Fn} {a b c : CE} {r q u : R} {i j k : Int} {ρ ρ1 ρ2 ρ3 : En} (h : ev Φ a ρ = .ok r ρ1) (h2 : ev Φ b ρ1 = .ok q ρ2) (h3 : ev Φ c ρ2 = .ok u ρ3) (hx : r.get ρ3 = some (.dat (.int i))) (hy : q.get ρ3 = some (.dat (.int j))) (hz : u.get ρ3 = some (.dat (.int k)))
    (hr : (decide (0 < k) && (decide (k.natAbs < 1073741824) && Builtin.Range.small i j k)) = true) : evI Φ (.rng3 a b c) ρ = .ok (rngD i (Builtin.Range.rangeSize i j k).toNat k) ρ3 := by
  have e0 : evI Φ (.rng3 a b c) ρ = M.bnd (ev Φ a) (fun r => (ev Φ b).bnd fun q => (ev Φ c).bnd fun u => (getM r).bnd fun x => (getM q).bnd fun y => (getM u).bnd fun z => (M.opt (asInt x)).bnd fun i => (M.opt (asInt y)).bnd fun j => (M.opt (asInt z)).bnd fun c =>
    if decide (0 < c) && (decide (c.natAbs < 1073741824) && Builtin.Range.small i j c) then M.ret (rngD i (Builtin.Range.rangeSize i j c).toNat c) else fun _ => .stuck) ρ := rfl
  have e1 : asInt (.dat (.int i)) = some i := rfl
  have e2 : asInt (.dat (.int j)) = some j := rfl
  have e3 : asInt (.dat (.int k)) = some k := rfl
  rw [e0, bnd_ap, h]
  dsimp only
  rw [bnd_ap, h2]
  dsimp only
  rw [bnd_ap, h3]
  dsimp only
  rw [bnd_ap]
  unfold getM
  rw [hx, opt_some]
  dsimp only
  rw [bnd_ap, hy, opt_some]
  dsimp only
  rw [bnd_ap, hz, opt_some]
  dsimp only
  rw [bnd_ap, e1, opt_some]
  dsimp only
  rw [bnd_ap, e2, opt_some]
  dsimp only
  rw [bnd_ap, e3, opt_some]
  dsimp only
  rw [if_pos hr]
  rfl
end Dv
end
section
set_option linter.all false
namespace Dv.Law
open PySem Dv
local macro_rules | `(tactic| walk_at "ev") => `(tactic| simp only [↓evE, ↓evF, ↓evG, ↓evH, ↓evK, ↓evX, ↓evY, nuE, fsetKM, keyE, ofs_eq, eqD_ofs, String.reduceEq, true_or, or_true, false_or, zipE, ↓bnd_ap, ↓ret_ap, ↓opt_some, ↓opt_none, ↓takeM_val, ↓storeM_val, ↓getM_val, ↓giveM_val, ↓arOf_val, ↓arOf_tmp,
  varM, getM, R.get, getSlot, takeM, storeM, giveM, arOf, getAllM, getAll, augM, setAt, asgT, asgTs, asgEach, boE, coE, szE, biE, bmE, mmE, mmR, trE, finE, exitE, atE, eqD_int, baE, ofE, blsOf_fm, intsOf_fm, blsOf_map, intsOf_map, strsOf_map, all_idm, any_idm, all_ttt, List.lookup_cons, List.lookup_nil, beq_self_eq_true, Nat.reduceBEq, eq_self, id_eq, List.all_cons, List.all_nil, callF, fsetM, fgt, svsOf, Ar.get, ownsOf, Dv.backTo, ibo, makeF, List.contains_cons, List.contains_nil,
  List.map_cons, List.map_nil, List.append_assoc, List.cons_append, List.nil_append, List.getElem?_cons_zero, List.getElem?_cons_succ, List.set_cons_zero, List.set_cons_succ, List.length_cons, List.length_nil, List.length_map, List.length_replicate, List.length_set, List.nodup_nil, List.nodup_cons, List.not_mem_nil, List.mem_cons, or_false, Nat.reduceEqDiff, not_false_eq_true, Option.map_some, Option.bind_some, Bool.not_true, Bool.not_false, Bool.false_eq_true, if_true, if_false, decide_true, decide_false, Nat.zero_add, Nat.reduceAdd, Nat.reduceSub, Nat.reduceMul, Nat.reduceLT, Int.cast_ofNat_Int, Int.reducePow, Nat.reducePow, Int.reduceToNat, true_and, and_true, and_self, Bool.and_true, Bool.true_and, Bool.false_and, Bool.and_false, Bool.or_false, Bool.false_or, Bool.true_or, Bool.or_true, decide_not, Int.reduceEq, Int.reduceNe, Int.reduceLT, Int.reduceLE, Int.reduceAdd, Int.reduceSub, Int.reduceMul, Int.reduceNeg, Int.reduceAbs, Int.natAbs_neg])
local macro_rules | `(tactic| walk_at "evh") => `(tactic| simp only [↓evE, ↓evF, ↓evG, ↓evH, ↓evK, ↓evX, ↓evY, nuE, fsetKM, keyE, ofs_eq, eqD_ofs, String.reduceEq, true_or, or_true, false_or, zipE, ↓bnd_ap, ↓ret_ap, ↓opt_some, ↓opt_none, ↓takeM_val, ↓storeM_val, ↓getM_val, ↓giveM_val, ↓arOf_val, ↓arOf_tmp,
  varM, getM, R.get, getSlot, takeM, storeM, giveM, arOf, getAllM, getAll, augM, setAt, asgT, asgTs, asgEach, boE, coE, szE, biE, bmE, mmE, mmR, trE, finE, exitE, atE, eqD_int, baE, ofE, blsOf_fm, intsOf_fm, blsOf_map, intsOf_map, strsOf_map, all_idm, any_idm, all_ttt, List.lookup_cons, List.lookup_nil, beq_self_eq_true, Nat.reduceBEq, eq_self, id_eq, List.all_cons, List.all_nil, callF, fsetM, fgt, svsOf, Ar.get, ownsOf, Dv.backTo, ibo, makeF, List.contains_cons, List.contains_nil,
  List.map_cons, List.map_nil, List.append_assoc, List.cons_append, List.nil_append, List.getElem?_cons_zero, List.getElem?_cons_succ, List.set_cons_zero, List.set_cons_succ, List.length_cons, List.length_nil, List.length_map, List.length_replicate, List.length_set, List.nodup_nil, List.nodup_cons, List.not_mem_nil, List.mem_cons, or_false, Nat.reduceEqDiff, not_false_eq_true, Option.map_some, Option.bind_some, Bool.not_true, Bool.not_false, Bool.false_eq_true, if_true, if_false, decide_true, decide_false, Nat.zero_add, Nat.reduceAdd, Nat.reduceSub, Nat.reduceMul, Nat.reduceLT, Int.cast_ofNat_Int, Int.reducePow, Nat.reducePow, Int.reduceToNat, true_and, and_true, and_self, Bool.and_true, Bool.true_and, Bool.false_and, Bool.and_false, Bool.or_false, Bool.false_or, Bool.true_or, Bool.or_true, decide_not, Int.reduceEq, Int.reduceNe, Int.reduceLT, Int.reduceLE, Int.reduceAdd, Int.reduceSub, Int.reduceMul, Int.reduceNeg, Int.reduceAbs, Int.natAbs_neg, *])
local macro_rules | `(tactic| walk_at "lc") => `(tactic| (refine ⟨_, rfl, ?_⟩; exact ⟨rfl, rfl⟩))
/-! ### numbers -/
theorem is_whole_ok (n : Nat) (d : D) : (∃ i, d = .int i) → phi code (n+1) 2 [.dat d] = .ok (.dat (.bl true)) [.dat d] := by
  rintro ⟨i, rfl⟩
  rfl
theorem lowest_ok (n : Nat) (a b c d : Int) (k : Nat) (hk : k < 1000000000000) : phi code (n+1) 3 [.dat (.int a), .dat (.int b), .dat (.int c), .dat (.int d), .dat (.int k)] =
    .ok (.dat (lowest a b c d k).D) [.dat (.int a), .dat (.int b), .dat (.int c), .dat (.int d), .dat (.int k)] := by
  rw [phi_run [.dat (.int a), .dat (.int b), .dat (.int c), .dat (.int d), .dat (.int k)] [some (.dat (.int a)), some (.dat (.int b)), some (.dat (.int c)), some (.dat (.int d)), some (.dat (.int k))] rfl rfl rfl rfl rfl]
  unfold c_lowest
  have e3 : sz 5 = true := by decide
  by_cases h1 : a = 0 ∧ b = 0 ∧ c = 0 ∧ d = 0
  · obtain ⟨rfl, rfl, rfl, rfl⟩ := h1
    have e : decide ((0 : Int) = 0) = true := rfl
    walk_at "evh"
    rfl
  · have e4 := low_loop (phi code n) k fuel a b c d hk
    have e5 : lowest a b c d k = lowLoop k a b c d := if_neg h1
    rw [e5]
    by_cases h2 : a = 0
    · by_cases h3 : b = 0
      · by_cases h4 : c = 0
        · have h5 : ¬ d = 0 := fun h => h1 ⟨h2, h3, h4, h⟩
          clear h1
          subst h2 h3 h4
          walk_at "evh"
          rfl
        · clear h1
          subst h2 h3
          walk_at "evh"
          rfl
      · clear h1
        subst h2
        walk_at "evh"
        rfl
    · clear h1
      walk_at "evh"
      rfl
theorem is_eighth_ok (n : Nat) (e : E8) (hk : e.k < 1000000000000) : phi code (n+2) 4 [.dat e.D] = .ok (.dat (.bl e.low)) [.dat e.D] := by
  obtain ⟨a, b, c, d, k⟩ := e
  rw [phi_run [.dat (E8.D ⟨a, b, c, d, k⟩)] [some (.dat (E8.D ⟨a, b, c, d, k⟩)), none, none, none, none, none, none] rfl rfl rfl rfl rfl]
  unfold c_is_eighth
  have e1 : ∀ x ∈ [Dv.D.int a, .int b, .int c, .int d, .int k], ∃ ρ', lcBody (phi code (n + 1)) (.nm 6) .nil (.call 2 (.cons (.var 6) .nil)) x (wipeE [some (.dat (E8.D ⟨a, b, c, d, k⟩)), none, none, none, none, none, none] [6]) = .ok (some (.bl true)) ρ' ∧ Ag [6] [some (.dat (E8.D ⟨a, b, c, d, k⟩)), none, none, none, none, none, none] ρ' := by
    intro x hx
    obtain ⟨i, rfl⟩ : ∃ i, x = .int i := by
      simp only [List.mem_cons, List.not_mem_nil, or_false] at hx
      rcases hx with rfl | rfl | rfl | rfl | rfl <;> exact ⟨_, rfl⟩
    exact ⟨_, rfl, rfl, rfl⟩
  have e2 := lc_dat (Φ := phi code (n + 1)) (own := [6]) (g := .nm 6) (c := .nil) (e := .call 2 (.cons (.var 6) .nil)) (ρ := [some (.dat (E8.D ⟨a, b, c, d, k⟩)), none, none, none, none, none, none]) (fun _ => some (.bl true)) (i := 0) (d := E8.D ⟨a, b, c, d, k⟩) rfl rfl rfl ⟨rfl, rfl⟩ (by simp) e1
  have e4 := lowest_ok n a b c d k hk
  have e5 := eqD_e8 (lowest a b c d k) ⟨a, b, c, d, k⟩
  have h0 : (0 : Int) ≤ (k : Int) := by omega
  have e6 : E8.D ⟨a, b, c, d, k⟩ = .tup [.int a, .int b, .int c, .int d, .int k] := rfl
  rw [e6] at e5 e2 ⊢
  unfold E8.low
  dsimp only at e2 ⊢
  walk_at "evh"


/-! ### gates: made, what they tell -/
def Wd.cls : Wd → Nat
  | .x => 2 | .y => 3 | .z => 5 | .s => 6 | .r => 7 | .t => 8 | .u => 9 | .h => 10 | .cx => 11 | .cz => 12 | .swap => 13 | .ccx => 14
def Wd.ini : Wd → Nat
  | .x => 35 | .y => 39 | .h => 60 | .cx => 63 | .cz => 67 | .swap => 70 | .ccx => 74 | _ => 42
def Wd.go : Wd → Nat
  | .x => 38 | .y => 41 | .h => 62 | .cx => 66 | .cz => 69 | .swap => 73 | .ccx => 78 | _ => 45
def wsD (ws : List Nat) : List Dv.D := ws.map fun a : Nat => .int (a : Int)
def gD (g : Gt) : Dv.D := .ins g.w.cls [.tup (wsD g.ws)]
theorem cnt_one {ws : List Nat} (hn : ws.Nodup) {a : Nat} (ha : a ∈ ws) : cntD (.int (a : Int)) (wsD ws) = some 1 := by
  unfold wsD
  rw [cntD_ok rfl (pls_map (fun _ => rfl) ws) (Nat.zero_le _) (Nat.lt_of_le_of_lt (dps_map (m := 0) (fun _ => Nat.le_refl _) ws) (by decide))]
  congr 1
  rw [List.countP_map]
  induction ws with
  | nil => cases ha
  | cons b ws ih =>
    have hn := List.nodup_cons.mp hn
    rw [List.countP_cons]
    show _ + (if deq (.int (b : Int)) (.int (a : Int)) = true then 1 else 0) = 1
    rw [deq_nat]
    rcases List.mem_cons.mp ha with rfl | ha
    · rw [decide_eq_true rfl, if_pos rfl, List.countP_eq_zero.mpr]
      intro c hc
      show ¬ (deq (.int (c : Int)) (.int (a : Int))) = true
      rw [deq_nat, decide_eq_true_eq]
      rintro rfl
      exact hn.1 hc
    · have hne : ¬ b = a := fun z => hn.1 (z ▸ ha)
      rw [decide_eq_false hne, if_neg (by decide), ih hn.2 ha]
def ini_b : CSs := match c_Gate___init__.body with
  | .cons (.for_ _ _ b) _ => b
  | _ => .nil
theorem gate_init (n : Nat) (w : Wd) (ws : List Nat) (hn : ws.Nodup) (h4 : ∀ a ∈ ws, a ≤ 4) : phi code (n+2) 25 [.ins w.cls [], .dat (.tpk (wsD ws))] = .ok (.dat .non) [.ins w.cls [.tup (wsD ws)], .dat (.tpk (wsD ws))] := by
  rw [phi_run [.ins w.cls [], .dat (.tpk (wsD ws))] [some (.ins w.cls []), some (.dat (.tpk (wsD ws))), none] rfl rfl rfl rfl rfl]
  obtain ⟨ρ', e1, t, hρ⟩ := for_countN (j := 2) (body := evSs (phi code (n+1)) 2 ini_b) (fun i ρ => ∃ t, ρ = [some (.ins w.cls []), some (.dat (.tpk (wsD ws))), t]) (wsD ws) [some (.ins w.cls []), some (.dat (.tpk (wsD ws))), none] ⟨_, rfl⟩ fun i x ρ hx ⟨t, h⟩ => by
    subst h
    unfold wsD at hx
    rw [List.getElem?_map] at hx
    obtain ⟨a, ha, rfl⟩ := Option.map_eq_some_iff.mp hx
    have hm := List.mem_of_getElem? ha
    have e1 := is_whole_ok n (.int (a : Int)) ⟨_, rfl⟩
    have e2 : decide ((0 : Int) ≤ (a : Int)) = true := decide_eq_true (by omega)
    have e3 : decide ((a : Int) ≤ 4) = true := decide_eq_true (by have := h4 a hm; omega)
    have e4 := cnt_one hn hm
    have e5 : decide (((1 : Nat) : Int) = 1) = true := rfl
    unfold ini_b c_Gate___init__
    dsimp only
    clear hn h4 hx ha hm
    generalize wsD ws = W at *
    walk_at "evh"
    exact ⟨_, rfl, _, rfl⟩
  subst hρ
  have e2 : evI (phi code (n+1)) (.seq (.var 1)) [some (.ins w.cls []), some (.dat (.tpk (wsD ws))), none] = .ok (wsD ws) [some (.ins w.cls []), some (.dat (.tpk (wsD ws))), none] := by
    clear e1
    walk_at "evh"
  have e3 := for_it (np := 2) (g := .nm 2) (b := ini_b) e2 rfl
  rw [e1] at e3
  unfold ini_b at e3
  unfold c_Gate___init__ at e3 ⊢
  dsimp only at e3 ⊢
  clear e1 e2 hn h4
  generalize wsD ws = W at *
  cases w <;> (unfold Wd.cls at *; dsimp only at e3 ⊢; walk_at "evh")
def svs (ws : List Nat) : List SV := ws.map fun a : Nat => SV.dat (.int (a : Int))
theorem mk_init (n : Nat) (w : Wd) (ws : List Nat) (hl : ws.length = w.ar) (hn : ws.Nodup) (h4 : ∀ a ∈ ws, a ≤ 4) : phi code (n+3) w.ini (.ins w.cls [] :: svs ws) = .ok (.dat .non) (.ins w.cls [.tup (wsD ws)] :: svs ws) := by
  have e1 := gate_init n w ws hn h4
  clear hn h4
  cases w <;> (unfold Wd.ar at hl; dsimp only at hl)
  case ccx =>
    match ws, hl with
    | [a, b, c], _ =>
      unfold Wd.ini Wd.cls svs wsD at *
      simp only [List.map_cons, List.map_nil] at e1 ⊢
      rw [phi_run [.ins 14 [], .dat (.int (a : Int)), .dat (.int (b : Int)), .dat (.int (c : Int))] [some (.ins 14 []), some (.dat (.int (a : Int))), some (.dat (.int (b : Int))), some (.dat (.int (c : Int)))] rfl rfl rfl rfl rfl]
      have s3 : sz 3 = true := by decide
      unfold c_Ccx___init__
      walk_at "evh"
  case cx =>
    match ws, hl with
    | [a, b], _ =>
      unfold Wd.ini Wd.cls svs wsD at *
      simp only [List.map_cons, List.map_nil] at e1 ⊢
      rw [phi_run [.ins 11 [], .dat (.int (a : Int)), .dat (.int (b : Int))] [some (.ins 11 []), some (.dat (.int (a : Int))), some (.dat (.int (b : Int)))] rfl rfl rfl rfl rfl]
      have s2 : sz 2 = true := by decide
      unfold c_Cx___init__
      walk_at "evh"
  case cz =>
    match ws, hl with
    | [a, b], _ =>
      unfold Wd.ini Wd.cls svs wsD at *
      simp only [List.map_cons, List.map_nil] at e1 ⊢
      rw [phi_run [.ins 12 [], .dat (.int (a : Int)), .dat (.int (b : Int))] [some (.ins 12 []), some (.dat (.int (a : Int))), some (.dat (.int (b : Int)))] rfl rfl rfl rfl rfl]
      have s2 : sz 2 = true := by decide
      unfold c_Cz___init__
      walk_at "evh"
  case swap =>
    match ws, hl with
    | [a, b], _ =>
      unfold Wd.ini Wd.cls svs wsD at *
      simp only [List.map_cons, List.map_nil] at e1 ⊢
      rw [phi_run [.ins 13 [], .dat (.int (a : Int)), .dat (.int (b : Int))] [some (.ins 13 []), some (.dat (.int (a : Int))), some (.dat (.int (b : Int)))] rfl rfl rfl rfl rfl]
      have s2 : sz 2 = true := by decide
      unfold c_Swap___init__
      walk_at "evh"
  case x =>
    match ws, hl with
    | [a], _ =>
      unfold Wd.ini Wd.cls svs wsD at *
      simp only [List.map_cons, List.map_nil] at e1 ⊢
      rw [phi_run [.ins 2 [], .dat (.int (a : Int))] [some (.ins 2 []), some (.dat (.int (a : Int)))] rfl rfl rfl rfl rfl]
      have s1 : sz 1 = true := by decide
      unfold c_X___init__
      walk_at "evh"
  case y =>
    match ws, hl with
    | [a], _ =>
      unfold Wd.ini Wd.cls svs wsD at *
      simp only [List.map_cons, List.map_nil] at e1 ⊢
      rw [phi_run [.ins 3 [], .dat (.int (a : Int))] [some (.ins 3 []), some (.dat (.int (a : Int)))] rfl rfl rfl rfl rfl]
      have s1 : sz 1 = true := by decide
      unfold c_Y___init__
      walk_at "evh"
  case h =>
    match ws, hl with
    | [a], _ =>
      unfold Wd.ini Wd.cls svs wsD at *
      simp only [List.map_cons, List.map_nil] at e1 ⊢
      rw [phi_run [.ins 10 [], .dat (.int (a : Int))] [some (.ins 10 []), some (.dat (.int (a : Int)))] rfl rfl rfl rfl rfl]
      have s1 : sz 1 = true := by decide
      unfold c_H___init__
      walk_at "evh"
  all_goals
    match ws, hl with
    | [a], _ =>
      unfold Wd.ini Wd.cls svs wsD at *
      simp only [List.map_cons, List.map_nil] at e1 ⊢
      rw [phi_run [.ins _ [], .dat (.int (a : Int))] [some (.ins _ []), some (.dat (.int (a : Int)))] rfl rfl rfl rfl rfl]
      have s1 : sz 1 = true := by decide
      unfold c_Turner___init__
      walk_at "evh"

/-! ### the gate of a word and wires; undone -/
theorem single_ok (n : Nat) (w : Wd) (hw : w.ar = 1) (a : Nat) (h4 : a ≤ 4) : phi code (n+4) 79 [.dat (.str (Str.ofString w.name)), .dat (.int (a : Int))] = .ok (.dat (gD ⟨w, [a]⟩)) [.dat (.str (Str.ofString w.name)), .dat (.int (a : Int))] := by
  have e1 := mk_init n w [a] hw.symm (by simp) (by simpa using h4)
  rw [phi_run [.dat (.str (Str.ofString w.name)), .dat (.int (a : Int))] [some (.dat (.str (Str.ofString w.name))), some (.dat (.int (a : Int)))] rfl rfl rfl rfl rfl]
  unfold c_single gD
  unfold svs wsD at *
  simp only [List.map_cons, List.map_nil] at e1 ⊢
  clear h4
  cases w <;> first | (exact absurd hw (by decide)) | (unfold Wd.name Wd.ini Wd.cls at *; dsimp only at e1 ⊢; clear hw; walk_at "evh")
theorem gate_of1 (n : Nat) (w : Wd) (hw : w.ar = 1) (a : Nat) (h4 : a ≤ 4) : phi code (n+5) 80 [.dat (.str (Str.ofString w.name)), .dat (.tup (wsD [a]))] = .ok (.dat (gD ⟨w, [a]⟩)) [.dat (.str (Str.ofString w.name)), .dat (.tup (wsD [a]))] := by
  have e2 := single_ok n w hw a h4
  have hin := fun a => inD_ofs a ["x", "y", "z", "s", "r", "t", "u", "h"]
  simp only [List.map_cons, List.map_nil] at hin
  have s8 : sz 8 = true := by decide
  rw [phi_run [.dat (.str (Str.ofString w.name)), .dat (.tup (wsD [a]))] [some (.dat (.str (Str.ofString w.name))), some (.dat (.tup (wsD [a]))), none] rfl rfl rfl rfl rfl]
  unfold c_gate_of
  generalize gD ⟨w, [a]⟩ = G at *
  unfold wsD
  simp only [List.map_cons, List.map_nil]
  clear h4
  cases w <;> first | (exact absurd hw (by decide)) | (unfold Wd.name at *; dsimp only at e2 ⊢; clear hw; walk_at "evh")
theorem gate_of_ok (n : Nat) (w : Wd) (ws : List Nat) (hl : ws.length = w.ar) (hn : ws.Nodup) (h4 : ∀ a ∈ ws, a ≤ 4) : phi code (n+5) 80 [.dat (.str (Str.ofString w.name)), .dat (.tup (wsD ws))] = .ok (.dat (gD ⟨w, ws⟩)) [.dat (.str (Str.ofString w.name)), .dat (.tup (wsD ws))] := by
  have e1 := mk_init (n + 1) w ws hl hn h4
  have hin := fun a => inD_ofs a ["x", "y", "z", "s", "r", "t", "u", "h"]
  simp only [List.map_cons, List.map_nil] at hin
  have s8 : sz 8 = true := by decide
  cases w
  case ccx =>
    match ws, hl with
    | [a, b, c], _ =>
      rw [phi_run [.dat (.str (Str.ofString Wd.ccx.name)), .dat (.tup (wsD [a, b, c]))] [some (.dat (.str (Str.ofString Wd.ccx.name))), some (.dat (.tup (wsD [a, b, c]))), none] rfl rfl rfl rfl rfl]
      unfold c_gate_of gD
      unfold svs wsD Wd.name Wd.ini Wd.cls at *
      simp only [List.map_cons, List.map_nil] at e1 ⊢
      clear hl hn h4
      walk_at "evh"
  case cx =>
    match ws, hl with
    | [a, b], _ =>
      rw [phi_run [.dat (.str (Str.ofString Wd.cx.name)), .dat (.tup (wsD [a, b]))] [some (.dat (.str (Str.ofString Wd.cx.name))), some (.dat (.tup (wsD [a, b]))), none] rfl rfl rfl rfl rfl]
      unfold c_gate_of gD
      unfold svs wsD Wd.name Wd.ini Wd.cls at *
      simp only [List.map_cons, List.map_nil] at e1 ⊢
      clear hl hn h4
      walk_at "evh"
  case cz =>
    match ws, hl with
    | [a, b], _ =>
      rw [phi_run [.dat (.str (Str.ofString Wd.cz.name)), .dat (.tup (wsD [a, b]))] [some (.dat (.str (Str.ofString Wd.cz.name))), some (.dat (.tup (wsD [a, b]))), none] rfl rfl rfl rfl rfl]
      unfold c_gate_of gD
      unfold svs wsD Wd.name Wd.ini Wd.cls at *
      simp only [List.map_cons, List.map_nil] at e1 ⊢
      clear hl hn h4
      walk_at "evh"
  case swap =>
    match ws, hl with
    | [a, b], _ =>
      rw [phi_run [.dat (.str (Str.ofString Wd.swap.name)), .dat (.tup (wsD [a, b]))] [some (.dat (.str (Str.ofString Wd.swap.name))), some (.dat (.tup (wsD [a, b]))), none] rfl rfl rfl rfl rfl]
      unfold c_gate_of gD
      unfold svs wsD Wd.name Wd.ini Wd.cls at *
      simp only [List.map_cons, List.map_nil] at e1 ⊢
      clear hl hn h4
      walk_at "evh"
  all_goals
    match ws, hl with
    | [a], _ => exact gate_of1 n _ rfl a (by simpa using h4)
def Wd.bk : Wd → Nat
  | .s => 50 | .r => 53 | .t => 56 | .u => 59 | _ => 29
theorem back_walk (n : Nat) (g : Gt) (hl : g.ws.length = g.w.ar) (h4 : ∀ a ∈ g.ws, a ≤ 4) : phi code (n+4) g.w.bk [.dat (gD g)] = .ok (.dat (gD g.back)) [.dat (gD g)] := by
  obtain ⟨w, ws⟩ := g
  have key : ∀ w' : Wd, w'.ar = 1 → ∀ a, a ≤ 4 → phi code (n+3) w'.ini (.ins w'.cls [] :: svs [a]) = .ok (.dat .non) (.ins w'.cls [.tup (wsD [a])] :: svs [a]) := fun w' hw a ha => mk_init n w' [a] hw.symm (by simp) (by simpa using ha)
  cases w
  case s =>
    match ws, hl with
    | [a], _ =>
      have e1 := key .r rfl a (by simpa using h4)
      rw [phi_run [.dat (gD ⟨.s, [a]⟩)] [some (.dat (gD ⟨.s, [a]⟩))] rfl rfl rfl rfl rfl]
      unfold c_S_back gD Gt.back
      unfold svs wsD Wd.ini Wd.cls at *
      simp only [List.map_cons, List.map_nil] at e1 ⊢
      clear key h4 hl
      walk_at "evh"
  case r =>
    match ws, hl with
    | [a], _ =>
      have e1 := key .s rfl a (by simpa using h4)
      rw [phi_run [.dat (gD ⟨.r, [a]⟩)] [some (.dat (gD ⟨.r, [a]⟩))] rfl rfl rfl rfl rfl]
      unfold c_R_back gD Gt.back
      unfold svs wsD Wd.ini Wd.cls at *
      simp only [List.map_cons, List.map_nil] at e1 ⊢
      clear key h4 hl
      walk_at "evh"
  case t =>
    match ws, hl with
    | [a], _ =>
      have e1 := key .u rfl a (by simpa using h4)
      rw [phi_run [.dat (gD ⟨.t, [a]⟩)] [some (.dat (gD ⟨.t, [a]⟩))] rfl rfl rfl rfl rfl]
      unfold c_T_back gD Gt.back
      unfold svs wsD Wd.ini Wd.cls at *
      simp only [List.map_cons, List.map_nil] at e1 ⊢
      clear key h4 hl
      walk_at "evh"
  case u =>
    match ws, hl with
    | [a], _ =>
      have e1 := key .t rfl a (by simpa using h4)
      rw [phi_run [.dat (gD ⟨.u, [a]⟩)] [some (.dat (gD ⟨.u, [a]⟩))] rfl rfl rfl rfl rfl]
      unfold c_U_back gD Gt.back
      unfold svs wsD Wd.ini Wd.cls at *
      simp only [List.map_cons, List.map_nil] at e1 ⊢
      clear key h4 hl
      walk_at "evh"
  all_goals rfl

theorem law_next_ok (n : Nat) (s m : Int) (hm : 0 < m) : phi code (n+1) 1000 [.lst [.int s], .dat (.int m)] = .ok (.dat (.int (nx s / 7 % m))) [.lst [.int (nx s)], .dat (.int m)] := by
  rw [phi_run [.lst [.int s], .dat (.int m)] [some (.lst [.int s]), some (.dat (.int m))] rfl rfl rfl rfl rfl]
  unfold c__law_next
  have e1 : mulOk s 48271 = true := mulOk_r (by decide)
  have e2 : decide ((0 : Int) < 2147483647) = true := by decide
  have e3 : L2.ixN 1 0 = some 0 := rfl
  have e4 : decide ((0 : Int) < m) = true := decide_eq_true hm
  have e5 : (decide ((0 : Int) < 7) && decide ((7 : Int).natAbs < 1073741824)) = true := by decide
  walk_at "evh"
  rfl
theorem law_state_ok (n : Nat) (c k : Int) : ∃ s : Int, phi code (n+1) 1002 [.dat (.int c), .dat (.int k)] = .ok (.lst [.int s]) [.dat (.int c), .dat (.int k)] := by
  refine ⟨1 + (((c * 48271 + k * 104729 + 7919) % 2147483647) * ((c * 48271 + k * 104729 + 7919) % 2147483647) + 69621 * k) % 2147483629, ?_⟩
  rw [phi_run [.dat (.int c), .dat (.int k)] [some (.dat (.int c)), some (.dat (.int k)), none] rfl rfl rfl rfl rfl]
  unfold c__law_state
  have e1 : mulOk c 48271 = true := mulOk_r (by decide)
  have e2 : mulOk k 104729 = true := mulOk_r (by decide)
  have e3 : mulOk 69621 k = true := mulOk_l (by decide)
  have e4 : ∀ x : Int, mulOk (x % 2147483647) (x % 2147483647) = true := fun x => mulOk_l (by omega)
  have e5 : decide ((0 : Int) < 2147483647) = true := by decide
  have e6 : decide ((0 : Int) < 2147483629) = true := by decide
  have e7 : sz 1 = true := by decide
  walk_at "evh"

theorem next_nat (n : Nat) (s : Int) (m : Nat) (hm : 0 < m) : ∃ (s' : Int) (r : Nat), r < m ∧ phi code (n+1) 1000 [.lst [.int s], .dat (.int (m : Int))] = .ok (.dat (.int (r : Int))) [.lst [.int s'], .dat (.int (m : Int))] := by
  have h := law_next_ok n s m (by omega)
  obtain ⟨h1, h2⟩ := nx_next s m (by omega)
  refine ⟨nx s, (nx s / 7 % m).toNat, by omega, ?_⟩
  rw [h, show (((nx s / 7 % m).toNat : Nat) : Int) = nx s / 7 % m by omega]

theorem max_ws {m : Nat} {ws : List Nat} (h0 : 0 < ws.length) (hw : ∀ a ∈ ws, a < m) : ∃ M : Nat, M < m ∧ bi .max1 [.tup (wsD ws)] = some (.dat (.int (M : Int))) := by
  match ws, h0 with
  | a :: ws, _ =>
    have key : ∀ (ws : List Nat) (a : Nat), a < m → (∀ b ∈ ws, b < m) → ws.foldl max a < m := fun ws => by
      induction ws with
      | nil => exact fun a h _ => h
      | cons b ws ih =>
        intro a h1 h2
        exact ih (max a b) (by have := h2 b List.mem_cons_self; omega) fun c hc => h2 c (List.mem_cons_of_mem _ hc)
    refine ⟨ws.foldl max a, key ws a (hw a List.mem_cons_self) fun b hb => hw b (List.mem_cons_of_mem _ hb), ?_⟩
    show (match intsOf ((a :: ws).map fun a : Nat => Dv.D.int (a : Int)) with
      | some (n :: ns) => some (FV.dat (.int (maxL n ns)))
      | _ => none) = _
    rw [intsOf_map]
    show some (FV.dat (.int (maxL (a : Int) (ws.map fun a : Nat => (a : Int))))) = _
    rw [foldl_max_cast]
theorem ar_pos (w : Wd) : 0 < w.ar := by cases w <;> decide
theorem ar3 (w : Wd) : w.ar ≤ 3 := by cases w <;> decide
theorem ws_le {m : Nat} {g : Gt} (hg : g.Ok m) (hm : m ≤ 5) : ∀ a ∈ g.ws, a ≤ 4 := fun a ha => by have := hg.lt a ha; omega

/-! ### a drawn gate -/
def gtD (g : Gt) : Dv.D := .tup [.str (Str.ofString g.w.name), .tup (wsD g.ws)]
def wordsN (m : Nat) : List Wd := [.x, .y, .z, .h, .s, .r, .t, .u, .h, .t] ++ (if 1 < m then [.cx, .cz, .swap, .cx, .cz] else []) ++ (if 2 < m then [.ccx, .ccx] else [])
theorem words_ar {m : Nat} (h1 : 1 ≤ m) (w : Wd) (h : w ∈ wordsN m) : w.ar ≤ m := by
  unfold wordsN at h
  rw [List.mem_append, List.mem_append] at h
  rcases h with (h | h) | h
  · have : w.ar = 1 := by
      simp only [List.mem_cons, List.not_mem_nil, or_false] at h
      rcases h with rfl | rfl | rfl | rfl | rfl | rfl | rfl | rfl | rfl | rfl <;> rfl
    omega
  · split at h
    · have : w.ar = 2 := by
        simp only [List.mem_cons, List.not_mem_nil, or_false] at h
        rcases h with rfl | rfl | rfl | rfl | rfl <;> rfl
      omega
    · cases h
  · split at h
    · have : w.ar = 3 := by
        simp only [List.mem_cons, List.not_mem_nil, or_false] at h
        rcases h with rfl | rfl <;> rfl
      omega
    · cases h
theorem eraseIdx_mapD (f : Nat → Dv.D) : ∀ (l : List Nat) (j : Nat), (l.map f).eraseIdx j = (l.eraseIdx j).map f
  | [], j => by cases j <;> rfl
  | a :: l, 0 => rfl
  | a :: l, j + 1 => by
    show f a :: (l.map f).eraseIdx j = f a :: (l.eraseIdx j).map f
    rw [eraseIdx_mapD f l j]
theorem erase_perm : ∀ (l : List Nat) (j : Nat) (hj : j < l.length), List.Perm (l[j] :: l.eraseIdx j) l
  | a :: l, 0, _ => List.Perm.refl _
  | a :: l, j + 1, hj => (List.Perm.swap a _ _).trans ((erase_perm l j (by simpa using hj)).cons a)
def strsW (ws : List Wd) : List Dv.D := ws.map fun w => .str (Str.ofString w.name)
def dg_b : CSs := match c__law_drawn_gate.body with
  | .cons _ (.cons _ (.cons _ (.cons _ (.cons _ (.cons _ (.cons (.for_ _ _ b) _)))))) => b
  | _ => .nil
theorem dg_step (n : Nat) (s : Int) (a1 a2 a3 a6 : Option SV) (ls fs : List Nat) (hl : 0 < ls.length) (hf : fs.length ≤ 100) (h32 : ls.length ≤ 100) : ∃ (s' : Int) (j : Nat) (hj : j < ls.length),
    evSs (phi code (n+1)) 2 dg_b [some (.lst [.int s]), a1, a2, a3, some (.lst (wsD ls)), some (.lst (wsD fs)), a6] = .ok .nx [some (.lst [.int s']), a1, a2, a3, some (.lst (wsD (ls.eraseIdx j))), some (.lst (wsD (fs ++ [ls[j]]))), a6] := by
  obtain ⟨s1, j, hj, e1⟩ := next_nat n s ls.length hl
  refine ⟨s1, j, hj, ?_⟩
  have hlen : (wsD ls).length = ls.length := List.length_map ..
  have hfl : (wsD fs).length = fs.length := List.length_map ..
  have c1 : (decide ((0 : Int) ≤ (j : Int)) && decide ((j : Int).natAbs < 2 ^ 63)) = true := by
    rw [decide_eq_true (by omega), decide_eq_true (by omega)]
    rfl
  have m1 : mmF .popAt (wsD ls) [.int (j : Int)] = some (.int (ls[j] : Nat), (wsD ls).eraseIdx j) := by
    show (if decide ((0 : Int) ≤ (j : Int)) && decide ((j : Int).natAbs < 2 ^ 63) then (match (wsD ls)[(j : Int).toNat]? with
      | some y => some (y, (wsD ls).eraseIdx (j : Int).toNat)
      | none => none) else none) = _
    rw [c1, if_pos rfl, Int.toNat_natCast]
    unfold wsD
    rw [List.getElem?_map, List.getElem?_eq_getElem hj]
    rfl
  have m2 : mmF .append (wsD fs) [.int (ls[j] : Nat)] = some (.non, wsD fs ++ [.int (ls[j] : Nat)]) := by
    show (if sz ((wsD fs).length + 1) then some (Dv.D.non, wsD fs ++ [.int (ls[j] : Nat)]) else none) = _
    rw [hfl, show sz (fs.length + 1) = true from decide_eq_true (by omega), if_pos rfl]
  have w1 : wsD (ls.eraseIdx j) = (wsD ls).eraseIdx j := (eraseIdx_mapD _ _ _).symm
  have w2 : wsD (fs ++ [ls[j]]) = wsD fs ++ [.int (ls[j] : Nat)] := List.map_append ..
  have bl : bi .len [.lst (wsD ls)] = some (.dat (.int (ls.length : Nat))) := by
    show some (FV.dat (.int ((wsD ls).length : Nat))) = _
    rw [hlen]
  rw [w1, w2]
  generalize wsD ls = L at *
  generalize wsD fs = F at *
  generalize ls[j] = z at *
  unfold dg_b c__law_drawn_gate
  dsimp only
  clear hl hf h32 c1 w1 w2
  walk_at "evh"
theorem drawn_gate_ok (n : Nat) (s : Int) (m : Nat) (h1 : 1 ≤ m) (h5 : m ≤ 5) : ∃ (s' : Int) (g : Gt), g.Ok m ∧ phi code (n+2) 1003 [.lst [.int s], .dat (.int (m : Int))] = .ok (.dat (gtD g)) [.lst [.int s'], .dat (.int (m : Int))] := by
  have hW : 0 < (wordsN m).length := by unfold wordsN; rw [List.length_append, List.length_append]; show 0 < 10 + _ + _; omega
  obtain ⟨s1, i, hi, e1⟩ := next_nat n s (wordsN m).length hW
  have hw := List.getElem_mem hi
  have hat : L2.atI (strsW (wordsN m)) (i : Int) = some (.str (Str.ofString (wordsN m)[i].name)) := by
    unfold strsW
    rw [atI_nat, List.getElem?_map, List.getElem?_eq_getElem hi]
    rfl
  have bl : bi .len [.lst (strsW (wordsN m))] = some (.dat (.int ((wordsN m).length : Nat))) := by
    show some (FV.dat (.int ((strsW (wordsN m)).length : Nat))) = _
    rw [show (strsW (wordsN m)).length = (wordsN m).length from List.length_map ..]
  have har := words_ar h1 _ hw
  have hWl : (wordsN m).length ≤ 100 := by
    unfold wordsN
    rw [List.length_append, List.length_append]
    split <;> split <;> simp
  generalize hwd : (wordsN m)[i] = w at *
  -- the wires
  obtain ⟨ρ', e2, s2, ls, fs, t, hl, hn, hlt, hρ⟩ := for_rangeN (j := 6) (body := evSs (phi code (n+1)) 2 dg_b) (fun k ρ => ∃ s ls fs t, (ls.length = m - k ∧ fs.length = k) ∧ (fs ++ ls).Nodup ∧ (∀ a ∈ fs ++ ls, a < m) ∧ ρ = [some (.lst [.int s]), some (.dat (.int (m : Int))), some (.lst (strsW (wordsN m))), some (.dat (.str (Str.ofString w.name))), some (.lst (wsD ls)), some (.lst (wsD fs)), t]) w.ar
    [some (.lst [.int s1]), some (.dat (.int (m : Int))), some (.lst (strsW (wordsN m))), some (.dat (.str (Str.ofString w.name))), some (.lst (wsD (List.range m))), some (.lst []), none]
    ⟨s1, List.range m, [], none, ⟨by rw [List.length_range]; rfl, rfl⟩, by rw [List.nil_append]; exact List.nodup_range, fun a ha => List.mem_range.mp (by simpa using ha), rfl⟩ fun k ρ hk ⟨s, ls, fs, t, hl, hn, hlt, h⟩ => by
      subst h
      obtain ⟨s', j, hj, e⟩ := dg_step n s (some (.dat (.int (m : Int)))) (some (.lst (strsW (wordsN m)))) (some (.dat (.str (Str.ofString w.name)))) (some (.dat (.int (k : Int)))) ls fs (by omega) (by omega) (by omega)
      refine ⟨_, e, s', ls.eraseIdx j, fs ++ [ls[j]], _, ⟨by rw [List.length_eraseIdx_of_lt hj]; omega, by rw [List.length_append]; simp; omega⟩, ?_, ?_, rfl⟩
      · have hp : List.Perm (fs ++ [ls[j]] ++ ls.eraseIdx j) (fs ++ ls) := by
          rw [List.append_assoc]
          exact List.Perm.append_left _ (erase_perm ls j hj)
        exact hp.nodup_iff.mpr hn
      · intro a ha
        have hp : List.Perm (fs ++ [ls[j]] ++ ls.eraseIdx j) (fs ++ ls) := by
          rw [List.append_assoc]
          exact List.Perm.append_left _ (erase_perm ls j hj)
        exact hlt a (hp.mem_iff.mp ha)
  subst hρ
  refine ⟨s2, ⟨w, fs⟩, ⟨hl.2, (List.nodup_append.mp hn).1, fun a ha => hlt a (List.mem_append_left _ ha)⟩, ?_⟩
  have e3 : evI (phi code (n+1)) (.rng1 (.dget [((.str (Str.ofString "cx")), (.int 2)), ((.str (Str.ofString "cz")), (.int 2)), ((.str (Str.ofString "swap")), (.int 2)), ((.str (Str.ofString "ccx")), (.int 3))] (.var 3) (.lit (.int 1)))) [some (.lst [.int s1]), some (.dat (.int (m : Int))), some (.lst (strsW (wordsN m))), some (.dat (.str (Str.ofString w.name))), some (.lst (wsD (List.range m))), some (.lst []), none] =
      .ok ((List.range w.ar).map fun i : Nat => .int (i : Int)) [some (.lst [.int s1]), some (.dat (.int (m : Int))), some (.lst (strsW (wordsN m))), some (.dat (.str (Str.ofString w.name))), some (.lst (wsD (List.range m))), some (.lst []), none] :=
    rng_nat (r := .val (.dat (.int (w.ar : Nat)))) (by
      clear e2 hwd hat e1 bl hw har
      generalize strsW (wordsN m) = SW at *
      generalize wsD (List.range m) = LW at *
      cases w <;> (unfold Wd.name Wd.ar; dsimp only; walk_at "evh"; try rfl)) rfl (by have := ar3 w; omega)
  have e4 := for_it (np := 2) (g := .nm 6) (b := dg_b) e3 rfl
  rw [e2] at e4
  rw [phi_run [.lst [.int s], .dat (.int (m : Int))] [some (.lst [.int s]), some (.dat (.int (m : Int))), none, none, none, none, none] rfl rfl rfl rfl rfl]
  unfold dg_b at e4
  dsimp only [c__law_drawn_gate] at e4
  unfold c__law_drawn_gate gtD
  have eR : rngD 0 (m : Int).toNat 1 = wsD (List.range m) := by
    rw [Int.toNat_natCast, rngD_nats]
    rfl
  have rk := rngOk_nat (m := m) (by omega)
  have zR : sz (wsD (List.range m)).length = true := decide_eq_true (by unfold wsD; rw [List.length_map, List.length_range]; omega)
  have evR : ∀ ρ : En, ρ[1]? = some (some (.dat (.int (m : Int)))) → evI (phi code (n+1)) (.rng1 (.var 1)) ρ = .ok (wsD (List.range m)) ρ := fun ρ hρ => rng_nat (r := .slot 1) (var_some hρ) (by show getSlot ρ 1 = _; unfold getSlot; rw [hρ]) (by omega)
  clear e2 e3 hl hn hlt hw har hW
  have s10 : sz 10 = true := by decide
  have s105 : sz (10 + 5) = true := by decide
  have s152 : sz (15 + 2) = true := by decide
  have s0 : sz 0 = true := by decide
  have s2 : sz 2 = true := by decide
  have er := evR [some (.lst [.int s1]), some (.dat (.int (m : Int))), some (.lst (strsW (wordsN m))), some (.dat (.str (Str.ofString w.name))), none, none, none] rfl
  clear evR
  have split3 : (m = 1 ∧ wordsN m = [.x, .y, .z, .h, .s, .r, .t, .u, .h, .t]) ∨ (m = 2 ∧ wordsN m = [.x, .y, .z, .h, .s, .r, .t, .u, .h, .t, .cx, .cz, .swap, .cx, .cz]) ∨ (2 < m ∧ wordsN m = [.x, .y, .z, .h, .s, .r, .t, .u, .h, .t, .cx, .cz, .swap, .cx, .cz, .ccx, .ccx]) := by
    have : m = 1 ∨ m = 2 ∨ m = 3 ∨ m = 4 ∨ m = 5 := by omega
    rcases this with rfl | rfl | rfl | rfl | rfl
    · exact .inl ⟨rfl, rfl⟩
    · exact .inr (.inl ⟨rfl, rfl⟩)
    · exact .inr (.inr ⟨by decide, rfl⟩)
    · exact .inr (.inr ⟨by decide, rfl⟩)
    · exact .inr (.inr ⟨by decide, rfl⟩)
  have eT : ∀ ds : List Dv.D, bi .tuple [.lst ds] = some (.dat (.tup ds)) := fun _ => rfl
  generalize wsD (List.range m) = LW at *
  generalize wsD fs = FW at *
  have lSW : (strsW (wordsN m)).length = (wordsN m).length := List.length_map ..
  have zW : sz (wordsN m).length = true := decide_eq_true (by omega)
  generalize hSW : strsW (wordsN m) = SW at *
  clear hwd rk eR h1 h5 hWl bl
  clear hi
  rcases split3 with ⟨hm0, hm⟩ | ⟨hm0, hm⟩ | ⟨hm0, hm⟩
  · have d1 : decide ((1 : Int) < (m : Int)) = false := decide_eq_false (by omega)
    have d2 : decide ((2 : Int) < (m : Int)) = false := decide_eq_false (by omega)
    rw [hm] at hSW
    unfold strsW Wd.name at hSW
    simp only [List.map_cons, List.map_nil] at hSW
    clear hm hm0
    walk_at "evh"
  · have d1 : decide ((1 : Int) < (m : Int)) = true := decide_eq_true (by omega)
    have d2 : decide ((2 : Int) < (m : Int)) = false := decide_eq_false (by omega)
    rw [hm] at hSW
    unfold strsW Wd.name at hSW
    simp only [List.map_cons, List.map_nil] at hSW
    clear hm hm0
    walk_at "evh"
  · have d1 : decide ((1 : Int) < (m : Int)) = true := decide_eq_true (by omega)
    have d2 : decide ((2 : Int) < (m : Int)) = true := decide_eq_true (by omega)
    rw [hm] at hSW
    unfold strsW Wd.name at hSW
    simp only [List.map_cons, List.map_nil] at hSW
    clear hm hm0
    walk_at "evh"

/-! ### texts of gates -/
def iS (a : Nat) : Str := (toString (a : Int) : String)
def SP : Str := Str.ofString " "
def gTx (g : Gt) : Str := Txt.join SP (Str.ofString g.w.name :: g.ws.map iS)
def chkTx : Bool := (gts 5).all fun g => joinSz SP (Str.ofString g.w.name :: g.ws.map iS) && decide ((gTx g).length ≤ 100)
theorem chkTx_ok : chkTx = true := by decide +kernel
theorem ok5 {m : Nat} (h5 : m ≤ 5) {g : Gt} (hg : g.Ok m) : g.Ok 5 := ⟨hg.ar, hg.nd, fun a ha => by have := hg.lt a ha; omega⟩
theorem gTx_len {m : Nat} (h5 : m ≤ 5) {g : Gt} (hg : g.Ok m) : joinSz SP (Str.ofString g.w.name :: g.ws.map iS) = true ∧ (gTx g).length ≤ 100 := by
  have := List.all_eq_true.mp chkTx_ok g (gts_mem (ok5 h5 hg))
  rw [Bool.and_eq_true, decide_eq_true_eq] at this
  exact this
def chkInt : Bool := (List.range 10).all fun a => decide ((iS a).length = 1) && decide (((a : Int)).natAbs.log2 < 1920)
theorem chkInt_ok : chkInt = true := by decide +kernel
theorem iS_len {a : Nat} (h : a < 10) : (iS a).length = 1 ∧ bi .str [.int (a : Int)] = some (.dat (.str (iS a))) := by
  have := List.all_eq_true.mp chkInt_ok a (List.mem_range.mpr h)
  rw [Bool.and_eq_true, decide_eq_true_eq, decide_eq_true_eq] at this
  refine ⟨this.1, ?_⟩
  show (if decide ((a : Int).natAbs.log2 < 1920) then some (FV.dat (.str (toString (a : Int) : String))) else none) = _
  rw [decide_eq_true this.2, if_pos rfl]
  rfl
def Wd.wd : Wd → Nat
  | .x => 36 | .y => 40 | .z => 46 | .s => 48 | .r => 51 | .t => 54 | .u => 57 | .h => 61 | .cx => 64 | .cz => 68 | .swap => 71 | .ccx => 75
theorem word_ok (n : Nat) (w : Wd) (d : Dv.D) : phi code (n+1) w.wd [.dat d] = .ok (.dat (.str (Str.ofString w.name))) [.dat d] := by cases w <;> rfl
theorem join_ok {m : Nat} (h5 : m ≤ 5) {g : Gt} (hg : g.Ok m) : bm .join (.str SP) [.lst (.str (Str.ofString g.w.name) :: g.ws.map fun a => .str (iS a))] = some (.dat (.str (gTx g))) := by
  have e : ∀ l : List Str, strsOf (l.map Dv.D.str) = some l := fun l => by
    induction l with
    | nil => rfl
    | cons a l ih =>
      show (strsOf (l.map Dv.D.str)).map (a :: ·) = _
      rw [ih]
      rfl
  have h := e (Str.ofString g.w.name :: g.ws.map iS)
  rw [List.map_cons, List.map_map] at h
  show (match strsOf (.str (Str.ofString g.w.name) :: g.ws.map fun a => Dv.D.str (iS a)) with
    | some zs => if joinSz SP zs then some (FV.dat (.str (Txt.join SP zs))) else none
    | none => none) = _
  have h' : strsOf (.str (Str.ofString g.w.name) :: g.ws.map fun a => Dv.D.str (iS a)) = _ := h
  rw [h']
  dsimp only
  rw [(gTx_len h5 hg).1, if_pos rfl]
  rfl
theorem gate_text_ok (n m : Nat) (h5 : m ≤ 5) (g : Gt) (hg : g.Ok m) : phi code (n+2) 28 [.dat (gD g)] = .ok (.dat (.str (gTx g))) [.dat (gD g)] := by
  have e1 := word_ok n g.w (gD g)
  have j := join_ok h5 hg
  have h3 : g.ws.length ≤ 3 := by rw [hg.ar]; exact ar3 g.w
  have el : ev (phi code (n+1)) (.lc [1] (.nm 1) (.seq (.fld (Str.ofString "on_wires") [(1, 0), (2, 0), (3, 0), (4, 0), (5, 0), (6, 0), (7, 0), (8, 0), (9, 0), (10, 0), (11, 0), (12, 0), (13, 0), (14, 0)] (.var 0))) .nil (.bc .str (.cons (.var 1) .nil))) [some (.dat (gD g)), none] = .ok (.val (.lst (g.ws.map fun a => .str (iS a)))) [some (.dat (gD g)), none] := by
    have eI : evI (phi code (n+1)) (.seq (.fld (Str.ofString "on_wires") [(1, 0), (2, 0), (3, 0), (4, 0), (5, 0), (6, 0), (7, 0), (8, 0), (9, 0), (10, 0), (11, 0), (12, 0), (13, 0), (14, 0)] (.var 0))) [some (.dat (gD g)), none] = .ok (g.ws.map fun a : Nat => Dv.D.int (a : Int)) [some (.dat (gD g)), none] := by
      clear e1 j
      obtain ⟨w, ws⟩ := g
      unfold gD wsD
      dsimp only
      cases w <;> (unfold Wd.cls; dsimp only; walk_at "evh")
    refine lc_itM (fun a : Nat => Dv.D.int (a : Int)) (fun a => .str (iS a)) g.ws eI rfl rfl ⟨rfl, rfl⟩ (by omega) fun a ha => ?_
    refine ⟨[some (.dat (gD g)), some (.dat (.int (a : Int)))], ?_, rfl, rfl⟩
    rw [lcRun]
    simp only [wipeE, List.set_cons_zero, List.set_cons_succ]
    have ei := (iS_len (a := a) (by have := hg.lt a ha; omega)).2
    clear eI e1 j h3
    generalize gD g = G at *
    walk_at "evh"
  rw [phi_run [.dat (gD g)] [some (.dat (gD g)), none] rfl rfl rfl rfl rfl]
  have lk : ([(1, 27), (2, 36), (3, 40), (4, 27), (5, 46), (6, 48), (7, 51), (8, 54), (9, 57), (10, 61), (11, 64), (12, 68), (13, 71), (14, 75)] : List (Nat × Nat)).lookup g.w.cls = some g.w.wd := by cases g.w <;> rfl
  have s1 : sz 1 = true := by decide
  have s4 : sz (1 + g.ws.length) = true := decide_eq_true (by omega)
  unfold c_Gate_text
  unfold gD at *
  unfold SP at j
  have hlen : (g.ws.map fun a => Dv.D.str (iS a)).length = g.ws.length := List.length_map ..
  generalize (g.ws.map fun a => Dv.D.str (iS a)) = L at *
  generalize wsD g.ws = WS at *
  generalize g.w.cls = C at *
  generalize gTx g = X at *
  rw [← hlen] at s4
  clear h3 hlen hg
  walk_at "evh"

/-! ### made by class; what a gate tells -/
theorem made_ok (n : Nat) (w : Wd) (ws : List Nat) (hl : ws.length = w.ar) (hn : ws.Nodup) (h4 : ∀ a ∈ ws, a ≤ 4) : phi code (n+5) 1004 [.dat (.str (Str.ofString w.name)), .dat (.tup (wsD ws))] = .ok (.dat (gD ⟨w, ws⟩)) [.dat (.str (Str.ofString w.name)), .dat (.tup (wsD ws))] := by
  have e1 := mk_init (n + 1) w ws hl hn h4
  have e2 := mk_init n w ws hl hn h4
  have e3 : w = .u ∨ 1 < w.ar → phi code (n+4) 1005 [.dat (.str (Str.ofString w.name)), .dat (.tup (wsD ws))] = .ok (.dat (gD ⟨w, ws⟩)) [.dat (.str (Str.ofString w.name)), .dat (.tup (wsD ws))] := fun hw => by
    rw [phi_run [.dat (.str (Str.ofString w.name)), .dat (.tup (wsD ws))] [some (.dat (.str (Str.ofString w.name))), some (.dat (.tup (wsD ws)))] rfl rfl rfl rfl rfl]
    clear hn h4 e1
    have x1 : ∀ a : Dv.D, L2.atI [a] 0 = some a := fun _ => rfl
    have y1 : ∀ a b : Dv.D, L2.atI [a, b] 0 = some a := fun _ _ => rfl
    have y2 : ∀ a b : Dv.D, L2.atI [a, b] 1 = some b := fun _ _ => rfl
    have z1 : ∀ a b c : Dv.D, L2.atI [a, b, c] 0 = some a := fun _ _ _ => rfl
    have z2 : ∀ a b c : Dv.D, L2.atI [a, b, c] 1 = some b := fun _ _ _ => rfl
    have z3 : ∀ a b c : Dv.D, L2.atI [a, b, c] 2 = some c := fun _ _ _ => rfl
    unfold c__law_other gD
    cases w <;> (unfold Wd.ar at hl hw; dsimp only at hl hw)
    case ccx =>
      match ws, hl with
      | [a, b, c], _ =>
        unfold svs wsD Wd.name Wd.ini Wd.cls at *
        simp only [List.map_cons, List.map_nil] at e2 ⊢
        clear hl hw
        walk_at "evh"
    case cx =>
      match ws, hl with
      | [a, b], _ =>
        unfold svs wsD Wd.name Wd.ini Wd.cls at *
        simp only [List.map_cons, List.map_nil] at e2 ⊢
        clear hl hw
        walk_at "evh"
    case cz =>
      match ws, hl with
      | [a, b], _ =>
        unfold svs wsD Wd.name Wd.ini Wd.cls at *
        simp only [List.map_cons, List.map_nil] at e2 ⊢
        clear hl hw
        walk_at "evh"
    case swap =>
      match ws, hl with
      | [a, b], _ =>
        unfold svs wsD Wd.name Wd.ini Wd.cls at *
        simp only [List.map_cons, List.map_nil] at e2 ⊢
        clear hl hw
        walk_at "evh"
    case u =>
      match ws, hl with
      | [a], _ =>
        unfold svs wsD Wd.name Wd.ini Wd.cls at *
        simp only [List.map_cons, List.map_nil] at e2 ⊢
        clear hl hw
        walk_at "evh"
    all_goals (rcases hw with hw | hw <;> first | (cases hw; done) | (exact absurd hw (by decide)))
  rw [phi_run [.dat (.str (Str.ofString w.name)), .dat (.tup (wsD ws))] [some (.dat (.str (Str.ofString w.name))), some (.dat (.tup (wsD ws)))] rfl rfl rfl rfl rfl]
  unfold c__law_made
  have x1 : ∀ a : Dv.D, L2.atI [a] 0 = some a := fun _ => rfl
  clear hn h4 e2
  cases w
  case ccx | cx | cz | swap | u =>
    have e3 := e3 (by first | exact .inl rfl | exact .inr (by decide))
    clear e1 hl
    unfold Wd.name at *
    dsimp only at e3 ⊢
    generalize gD _ = G at *
    generalize wsD ws = W at *
    walk_at "evh"
  all_goals
    match ws, hl with
    | [a], _ =>
      unfold gD
      unfold svs wsD Wd.name Wd.ini Wd.cls at *
      simp only [List.map_cons, List.map_nil] at e1 ⊢
      clear hl e3
      walk_at "evh"
def Wd.bt : Wd → Nat
  | .x => 37 | .cx => 65 | .swap => 72 | .ccx => 76 | _ => 30
def Wd.qt : Wd → Nat
  | .z | .s | .r | .t | .u => 44 | .ccx => 77 | _ => 31
def Wd.bit : Wd → Bool
  | .x | .cx | .swap | .ccx => true | _ => false
def Wd.qtr : Wd → Bool
  | .t | .u | .ccx => false | _ => true
theorem bit_ok (n : Nat) (g : Gt) : phi code (n+1) g.w.bt [.dat (gD g)] = .ok (.dat (.bl g.w.bit)) [.dat (gD g)] := by
  obtain ⟨w, ws⟩ := g
  cases w <;> rfl
theorem qtr_ok (n : Nat) (g : Gt) : phi code (n+2) g.w.qt [.dat (gD g)] = .ok (.dat (.bl g.w.qtr)) [.dat (gD g)] := by
  obtain ⟨w, ws⟩ := g
  cases w <;> rfl
theorem wires_ok (n : Nat) (g : Gt) : phi code (n+1) 26 [.dat (gD g)] = .ok (.dat (.tup (wsD g.ws))) [.dat (gD g)] := by
  obtain ⟨w, ws⟩ := g
  cases w <;> rfl
def chkS : Bool := (gts 5).all fun g => PyData.strOk (gTx g)
theorem chkS_ok : chkS = true := by decide +kernel
theorem gTx_same {m : Nat} (h5 : m ≤ 5) {g : Gt} (hg : g.Ok m) : eqD (.str (gTx g)) (.str (gTx g)) = some true := by
  have h : PyData.strOk (gTx g) = true := List.all_eq_true.mp chkS_ok g (gts_mem (ok5 h5 hg))
  have hp : pl (.str (gTx g)) = true := h
  rw [eqD_ok hp hp (Nat.zero_le _) (Nat.zero_le _)]
  show some (gTx g == gTx g) = some true
  rw [beq_self_eq_true]

/-! ### told right -/
theorem right_lc (Φ : Nat → Fn) (m : Nat) (h5 : m ≤ 5) (g : Gt) (hg : g.Ok m) (a0 a1 a3 a4 a5 : Option SV) :
    ev Φ (.lc [6] (.nm 6) (.slot 2) .nil (.bc .str (.cons (.var 6) .nil))) [a0, a1, some (.dat (.tup (wsD g.ws))), a3, a4, a5, none] = .ok (.val (.lst (g.ws.map fun a => .str (iS a)))) [a0, a1, some (.dat (.tup (wsD g.ws))), a3, a4, a5, none] := by
  have h3 : g.ws.length ≤ 3 := by rw [hg.ar]; exact ar3 g.w
  refine lc_datM (fun a : Nat => Dv.D.int (a : Int)) (fun a => .str (iS a)) g.ws rfl rfl rfl ⟨rfl, rfl⟩ (by omega) fun a ha => ?_
  refine ⟨[a0, a1, some (.dat (.tup (wsD g.ws))), a3, a4, a5, some (.dat (.int (a : Int)))], ?_, rfl, rfl⟩
  rw [lcRun]
  simp only [wipeE, List.set_cons_zero, List.set_cons_succ]
  have ei := (iS_len (a := a) (by have := hg.lt a ha; omega)).2
  clear h3
  generalize wsD g.ws = W at *
  walk_at "evh"
theorem eq_ws (ws : List Nat) : eqD (.tup (wsD ws)) (.tup (wsD ws)) = some true := by
  have := eqD_tup (f := fun r : Nat => Dv.D.int (r : Int)) (fun _ => rfl) (fun _ => Nat.zero_le _) deq_nat ws ws
  rw [decide_eq_true rfl] at this
  exact this
set_option maxHeartbeats 0 in
theorem right_ok (n m : Nat) (h5 : m ≤ 5) (g : Gt) (hg : g.Ok m) : phi code (n+5) 1006 [.dat (gD g), .dat (.str (Str.ofString g.w.name)), .dat (.tup (wsD g.ws))] = .ok (.dat (.bl true)) [.dat (gD g), .dat (.str (Str.ofString g.w.name)), .dat (.tup (wsD g.ws))] := by
  have b1 := word_ok (n + 3) g.w (gD g)
  have b2 := wires_ok (n + 3) g
  have b3 := gate_text_ok (n + 2) m h5 g hg
  have b4 := bit_ok (n + 3) g
  have b5 := qtr_ok (n + 2) g
  have b6 := back_walk n g hg.ar (ws_le hg h5)
  have b7 := word_ok (n + 3) g.back.w (gD g.back)
  have b8 := wires_ok (n + 3) g.back
  have j := join_ok h5 hg
  have qx := gTx_same h5 hg
  have qw := eq_ws g.ws
  have h3 : g.ws.length ≤ 3 := by rw [hg.ar]; exact ar3 g.w
  have el := right_lc (phi code (n+4)) m h5 g hg (some (.dat (gD g))) (some (.dat (.str (Str.ofString g.w.name)))) none none none
  have hin := fun a => inD_ofs a ["x", "cx", "swap", "ccx"]
  have hin2 := fun a => inD_ofs a ["t", "u", "ccx"]
  simp only [List.map_cons, List.map_nil] at hin hin2
  have qt : eqD (.bl true) (.bl true) = some true := rfl
  have qf : eqD (.bl false) (.bl false) = some true := rfl
  have s1 : sz 1 = true := by decide
  have s3 : sz 3 = true := by decide
  have s4' : sz 4 = true := by decide
  have s4 : sz (1 + g.ws.length) = true := decide_eq_true (by omega)
  have hlen : (g.ws.map fun a => Dv.D.str (iS a)).length = g.ws.length := List.length_map ..
  rw [phi_run [.dat (gD g), .dat (.str (Str.ofString g.w.name)), .dat (.tup (wsD g.ws))] [some (.dat (gD g)), some (.dat (.str (Str.ofString g.w.name))), some (.dat (.tup (wsD g.ws))), none, none, none, none] rfl rfl rfl rfl rfl]
  unfold c__law_right
  rw [← hlen] at s4
  unfold SP at j
  obtain ⟨w, ws⟩ := g
  generalize hL : (ws.map fun a => Dv.D.str (iS a)) = L at *
  generalize hX : gTx ⟨w, ws⟩ = X at *
  clear hg h3 hlen hL hX
  cases w <;> (unfold Gt.back gD at *; dsimp only at *; generalize wsD ws = W at *; unfold Wd.cls Wd.wd Wd.bt Wd.qt Wd.bk Wd.bit Wd.qtr Wd.name at *; dsimp only at *; walk_at "evh")

/-! ### what is no gate, by its wires -/
def GdW (W : List Dv.D) (x : Dv.D) : Prop := ∃ i : Int, x = .int i ∧ 0 ≤ i ∧ i ≤ 4 ∧ cntD (.int i) W = some 1
def isI : Dv.D → Bool
  | .int _ => true
  | _ => false
theorem whole_int (n : Nat) (x : Dv.D) (hp : pl x = true) : phi code (n+1) 2 [.dat x] = .ok (.dat (.bl (isI x))) [.dat x] := by
  cases x <;> first | rfl | (cases hp; done)
theorem ini_step (n : Nat) (a0 : Option SV) (W : List Dv.D) (hW : pls W = true) (hd : dps W < 20) (x : Dv.D) (hp : pl x = true) (hx : dp x < 20) :
    (GdW W x → evSs (phi code (n+1)) 2 ini_b [a0, some (.dat (.tpk W)), some (.dat x)] = .ok .nx [a0, some (.dat (.tpk W)), some (.dat x)]) ∧
    (¬ GdW W x → evSs (phi code (n+1)) 2 ini_b [a0, some (.dat (.tpk W)), some (.dat x)] = .exc ⟨4, []⟩ [a0, some (.dat (.tpk W)), some (.dat x)]) := by
  have e1 := whole_int n x hp
  constructor
  · rintro ⟨i, rfl, h0, h4, hc⟩
    dsimp only [isI] at e1
    have e2 : decide ((0 : Int) ≤ i) = true := decide_eq_true h0
    have e3 : decide (i ≤ 4) = true := decide_eq_true h4
    have e5 : decide (((1 : Nat) : Int) = 1) = true := rfl
    unfold ini_b c_Gate___init__
    dsimp only
    clear hW hd hx hp
    walk_at "evh"
  · intro h
    by_cases hi : ∃ i, x = .int i
    · obtain ⟨i, rfl⟩ := hi
      dsimp only [isI] at e1
      have hc : cntD (.int i) W = some (W.countP fun z => deq z (.int i)) := cntD_ok hp hW (by show 0 ≤ 64; omega) (by omega)
      generalize (W.countP fun z => deq z (.int i)) = c at *
      unfold ini_b c_Gate___init__
      dsimp only
      by_cases h0 : 0 ≤ i
      · by_cases h4 : i ≤ 4
        · have e2 : decide ((0 : Int) ≤ i) = true := decide_eq_true h0
          have e3 : decide (i ≤ 4) = true := decide_eq_true h4
          have e5 : decide ((c : Int) = 1) = false := decide_eq_false fun z => h ⟨i, rfl, h0, h4, by rw [hc, show c = 1 by omega]⟩
          clear hW hd hx hp h h0 h4
          walk_at "evh"
        · have e2 : decide ((0 : Int) ≤ i) = true := decide_eq_true h0
          have e3 : decide (i ≤ 4) = false := decide_eq_false h4
          clear hW hd hx hp h h0 h4
          walk_at "evh"
      · have e2 : decide ((0 : Int) ≤ i) = false := decide_eq_false h0
        clear hW hd hx hp h h0
        walk_at "evh"
    · have e2 : isI x = false := by
        cases x <;> first | rfl | (exact absurd ⟨_, rfl⟩ hi)
      rw [e2] at e1
      unfold ini_b c_Gate___init__
      dsimp only
      clear hW hd hx hp h hi e2
      walk_at "evh"
theorem pls_at : ∀ {W : List Dv.D}, pls W = true → ∀ x ∈ W, pl x = true
  | [], _, x, hx => nomatch hx
  | d :: W, h, x, hx => by
    have h' : (pl d && pls W) = true := h
    rw [Bool.and_eq_true] at h'
    rcases List.mem_cons.mp hx with rfl | hx
    · exact h'.1
    · exact pls_at h'.2 x hx
theorem dps_at : ∀ {W : List Dv.D} {k : Nat}, dps W < k → ∀ x ∈ W, dp x < k
  | [], _, _, x, hx => nomatch hx
  | d :: W, k, h, x, hx => by
    have h' : max (dp d) (dps W) < k := h
    rcases List.mem_cons.mp hx with rfl | hx
    · omega
    · exact dps_at (W := W) (by omega) x hx
theorem forGo_nx1 {j : Nat} {body : M Fl} {x : Dv.D} {xs : List Dv.D} {ρ ρ2 : En} (h : body (ρ.set j (some (.dat x))) = .ok .nx ρ2) : forGo (.nm j) body (x :: xs) ρ = forGo (.nm j) body xs ρ2 := by
  show (M.bnd (asgT (.nm j) x) (fun _ => body.bnd fun f => match f with
    | .nx | .ct => forGo (.nm j) body xs
    | .bk => M.ret .nx
    | .rt y => M.ret (.rt y))) ρ = _
  have e : asgT (.nm j) x ρ = .ok () (ρ.set j (some (.dat x))) := rfl
  rw [bnd_ap, e]
  show M.bnd body _ (ρ.set j (some (.dat x))) = _
  rw [bnd_ap, h]
theorem ini_loop (n : Nat) (a0 : Option SV) (W : List Dv.D) (hW : pls W = true) (hd : dps W < 20) : ∀ (xs : List Dv.D), (∀ x ∈ xs, x ∈ W) → (∃ x ∈ xs, ¬ GdW W x) → ∀ t : Option SV, ∃ t', forGo (.nm 2) (evSs (phi code (n+1)) 2 ini_b) xs [a0, some (.dat (.tpk W)), t] = .exc ⟨4, []⟩ [a0, some (.dat (.tpk W)), t']
  | [], _, ⟨x, hx, _⟩, _ => nomatch hx
  | y :: xs, hs, ⟨x, hx, hb⟩, t => by
    have hy := hs y List.mem_cons_self
    obtain ⟨g1, g2⟩ := ini_step n a0 W hW hd y (pls_at hW y hy) (dps_at hd y hy)
    by_cases h : GdW W y
    · have hx2 : x ∈ xs := by
        rcases List.mem_cons.mp hx with rfl | hx
        · exact absurd h hb
        · exact hx
      obtain ⟨t', e⟩ := ini_loop n a0 W hW hd xs (fun z hz => hs z (List.mem_cons_of_mem _ hz)) ⟨x, hx2, hb⟩ (some (.dat y))
      refine ⟨t', Eq.trans ?_ e⟩
      exact forGo_nx1 (j := 2) (g1 h)
    · refine ⟨some (.dat y), ?_⟩
      have e := g2 h
      show M.bnd (asgT (.nm 2) y) _ [a0, some (.dat (.tpk W)), t] = _
      rw [bnd_ap]
      show M.bnd (evSs (phi code (n+1)) 2 ini_b) _ [a0, some (.dat (.tpk W)), some (.dat y)] = _
      rw [bnd_ap, e]
theorem init_no (n : Nat) (c : Nat) (W : List Dv.D) (hW : pls W = true) (hd : dps W < 20) (hb : ∃ x ∈ W, ¬ GdW W x) : phi code (n+2) 25 [.ins c [], .dat (.tpk W)] = .exc ⟨4, []⟩ [.ins c [], .dat (.tpk W)] := by
  obtain ⟨t', e1⟩ := ini_loop n (some (.ins c [])) W hW hd W (fun x hx => hx) hb none
  have e2 : evI (phi code (n+1)) (.seq (.var 1)) [some (.ins c []), some (.dat (.tpk W)), none] = .ok W [some (.ins c []), some (.dat (.tpk W)), none] := by
    clear e1
    walk_at "evh"
  have e3 := for_it (np := 2) (g := .nm 2) (b := ini_b) e2 rfl
  rw [e1] at e3
  rw [phi_run [.ins c [], .dat (.tpk W)] [some (.ins c []), some (.dat (.tpk W)), none] rfl rfl rfl rfl rfl]
  unfold ini_b at e3
  unfold c_Gate___init__ at e3 ⊢
  dsimp only at e3 ⊢
  clear e1 e2 hW hd hb
  walk_at "evh"

/-! ### refusals by wires -/
def dsv (W : List Dv.D) : List SV := W.map SV.dat
theorem mk_no (n : Nat) (w : Wd) (W : List Dv.D) (hl : W.length = w.ar) (hW : pls W = true) (hd : dps W < 20) (hb : ∃ x ∈ W, ¬ GdW W x) : phi code (n+3) w.ini (.ins w.cls [] :: dsv W) = .exc ⟨4, []⟩ (.ins w.cls [] :: dsv W) := by
  have e1 := init_no n w.cls W hW hd hb
  clear hW hd hb
  have s1 : sz 1 = true := by decide
  have s2 : sz 2 = true := by decide
  have s3 : sz 3 = true := by decide
  cases w <;> (unfold Wd.ar at hl; dsimp only at hl)
  case ccx =>
    match W, hl with
    | [a, b, c], _ =>
      unfold Wd.ini Wd.cls dsv at *
      simp only [List.map_cons, List.map_nil] at e1 ⊢
      rw [phi_run [.ins 14 [], .dat a, .dat b, .dat c] [some (.ins 14 []), some (.dat a), some (.dat b), some (.dat c)] rfl rfl rfl rfl rfl]
      unfold c_Ccx___init__
      walk_at "evh"
  case cx =>
    match W, hl with
    | [a, b], _ =>
      unfold Wd.ini Wd.cls dsv at *
      simp only [List.map_cons, List.map_nil] at e1 ⊢
      rw [phi_run [.ins 11 [], .dat a, .dat b] [some (.ins 11 []), some (.dat a), some (.dat b)] rfl rfl rfl rfl rfl]
      unfold c_Cx___init__
      walk_at "evh"
  case cz =>
    match W, hl with
    | [a, b], _ =>
      unfold Wd.ini Wd.cls dsv at *
      simp only [List.map_cons, List.map_nil] at e1 ⊢
      rw [phi_run [.ins 12 [], .dat a, .dat b] [some (.ins 12 []), some (.dat a), some (.dat b)] rfl rfl rfl rfl rfl]
      unfold c_Cz___init__
      walk_at "evh"
  case swap =>
    match W, hl with
    | [a, b], _ =>
      unfold Wd.ini Wd.cls dsv at *
      simp only [List.map_cons, List.map_nil] at e1 ⊢
      rw [phi_run [.ins 13 [], .dat a, .dat b] [some (.ins 13 []), some (.dat a), some (.dat b)] rfl rfl rfl rfl rfl]
      unfold c_Swap___init__
      walk_at "evh"
  case x =>
    match W, hl with
    | [a], _ =>
      unfold Wd.ini Wd.cls dsv at *
      simp only [List.map_cons, List.map_nil] at e1 ⊢
      rw [phi_run [.ins 2 [], .dat a] [some (.ins 2 []), some (.dat a)] rfl rfl rfl rfl rfl]
      unfold c_X___init__
      walk_at "evh"
  case y =>
    match W, hl with
    | [a], _ =>
      unfold Wd.ini Wd.cls dsv at *
      simp only [List.map_cons, List.map_nil] at e1 ⊢
      rw [phi_run [.ins 3 [], .dat a] [some (.ins 3 []), some (.dat a)] rfl rfl rfl rfl rfl]
      unfold c_Y___init__
      walk_at "evh"
  case h =>
    match W, hl with
    | [a], _ =>
      unfold Wd.ini Wd.cls dsv at *
      simp only [List.map_cons, List.map_nil] at e1 ⊢
      rw [phi_run [.ins 10 [], .dat a] [some (.ins 10 []), some (.dat a)] rfl rfl rfl rfl rfl]
      unfold c_H___init__
      walk_at "evh"
  all_goals
    match W, hl with
    | [a], _ =>
      unfold Wd.ini Wd.cls dsv at *
      simp only [List.map_cons, List.map_nil] at e1 ⊢
      rw [phi_run [.ins _ [], .dat a] [some (.ins _ []), some (.dat a)] rfl rfl rfl rfl rfl]
      unfold c_Turner___init__
      walk_at "evh"
theorem atE1 : (∀ a : Dv.D, L2.atI [a] 0 = some a) ∧ (∀ a b : Dv.D, L2.atI [a, b] 0 = some a) ∧ (∀ a b : Dv.D, L2.atI [a, b] 1 = some b) ∧ (∀ a b c : Dv.D, L2.atI [a, b, c] 0 = some a) ∧ (∀ a b c : Dv.D, L2.atI [a, b, c] 1 = some b) ∧ (∀ a b c : Dv.D, L2.atI [a, b, c] 2 = some c) := ⟨fun _ => rfl, fun _ _ => rfl, fun _ _ => rfl, fun _ _ _ => rfl, fun _ _ _ => rfl, fun _ _ _ => rfl⟩
set_option maxHeartbeats 0 in
theorem made_no (n : Nat) (w : Wd) (W : List Dv.D) (hl : W.length = w.ar) (hW : pls W = true) (hd : dps W < 20) (hb : ∃ x ∈ W, ¬ GdW W x) : phi code (n+5) 1004 [.dat (.str (Str.ofString w.name)), .dat (.tup W)] = .exc ⟨4, []⟩ [.dat (.str (Str.ofString w.name)), .dat (.tup W)] := by
  have e1 := mk_no (n + 1) w W hl hW hd hb
  have e2 := mk_no n w W hl hW hd hb
  obtain ⟨x1, y1, y2, z1, z2, z3⟩ := atE1
  have e3 : w = .u ∨ 1 < w.ar → phi code (n+4) 1005 [.dat (.str (Str.ofString w.name)), .dat (.tup W)] = .exc ⟨4, []⟩ [.dat (.str (Str.ofString w.name)), .dat (.tup W)] := fun hw => by
    rw [phi_run [.dat (.str (Str.ofString w.name)), .dat (.tup W)] [some (.dat (.str (Str.ofString w.name))), some (.dat (.tup W))] rfl rfl rfl rfl rfl]
    clear hW hd hb e1
    unfold c__law_other
    cases w <;> (unfold Wd.ar at hl hw; dsimp only at hl hw)
    case ccx =>
      match W, hl with
      | [a, b, c], _ =>
        unfold dsv Wd.name Wd.ini Wd.cls at *
        simp only [List.map_cons, List.map_nil] at e2
        clear hl hw
        walk_at "evh"
    case cx =>
      match W, hl with
      | [a, b], _ =>
        unfold dsv Wd.name Wd.ini Wd.cls at *
        simp only [List.map_cons, List.map_nil] at e2
        clear hl hw
        walk_at "evh"
    case cz =>
      match W, hl with
      | [a, b], _ =>
        unfold dsv Wd.name Wd.ini Wd.cls at *
        simp only [List.map_cons, List.map_nil] at e2
        clear hl hw
        walk_at "evh"
    case swap =>
      match W, hl with
      | [a, b], _ =>
        unfold dsv Wd.name Wd.ini Wd.cls at *
        simp only [List.map_cons, List.map_nil] at e2
        clear hl hw
        walk_at "evh"
    case u =>
      match W, hl with
      | [a], _ =>
        unfold dsv Wd.name Wd.ini Wd.cls at *
        simp only [List.map_cons, List.map_nil] at e2
        clear hl hw
        walk_at "evh"
    all_goals (rcases hw with hw | hw <;> first | (cases hw; done) | (exact absurd hw (by decide)))
  rw [phi_run [.dat (.str (Str.ofString w.name)), .dat (.tup W)] [some (.dat (.str (Str.ofString w.name))), some (.dat (.tup W))] rfl rfl rfl rfl rfl]
  unfold c__law_made
  clear hW hd hb e2
  cases w
  case ccx | cx | cz | swap | u =>
    have e3 := e3 (by first | exact .inl rfl | exact .inr (by decide))
    clear e1 hl
    unfold Wd.name at *
    dsimp only at e3 ⊢
    walk_at "evh"
  all_goals
    match W, hl with
    | [a], _ =>
      unfold dsv Wd.name Wd.ini Wd.cls at *
      simp only [List.map_cons, List.map_nil] at e1
      clear hl e3
      walk_at "evh"
theorem single_no (n : Nat) (w : Wd) (hw : w.ar = 1) (a : Dv.D) (hW : pls [a] = true) (hd : dps [a] < 20) (hb : ∃ x ∈ [a], ¬ GdW [a] x) : phi code (n+4) 79 [.dat (.str (Str.ofString w.name)), .dat a] = .exc ⟨4, []⟩ [.dat (.str (Str.ofString w.name)), .dat a] := by
  have e1 := mk_no n w [a] hw.symm hW hd hb
  rw [phi_run [.dat (.str (Str.ofString w.name)), .dat a] [some (.dat (.str (Str.ofString w.name))), some (.dat a)] rfl rfl rfl rfl rfl]
  unfold c_single
  unfold dsv at *
  simp only [List.map_cons, List.map_nil] at e1
  clear hW hd hb
  cases w <;> first | (exact absurd hw (by decide)) | (unfold Wd.name Wd.ini Wd.cls at *; dsimp only at e1 ⊢; clear hw; walk_at "evh")
set_option maxHeartbeats 0 in
theorem gate_of_nowire (n : Nat) (w : Wd) (W : List Dv.D) (hl : W.length = w.ar) (hW : pls W = true) (hd : dps W < 20) (hb : ∃ x ∈ W, ¬ GdW W x) : phi code (n+5) 80 [.dat (.str (Str.ofString w.name)), .dat (.tup W)] = .exc ⟨4, []⟩ [.dat (.str (Str.ofString w.name)), .dat (.tup W)] := by
  have e1 := mk_no (n + 1) w W hl hW hd hb
  obtain ⟨x1, y1, y2, z1, z2, z3⟩ := atE1
  have hin := fun a => inD_ofs a ["x", "y", "z", "s", "r", "t", "u", "h"]
  simp only [List.map_cons, List.map_nil] at hin
  have s8 : sz 8 = true := by decide
  rw [phi_run [.dat (.str (Str.ofString w.name)), .dat (.tup W)] [some (.dat (.str (Str.ofString w.name))), some (.dat (.tup W)), none] rfl rfl rfl rfl rfl]
  unfold c_gate_of
  have e3 : ∀ a, W = [a] → w.ar = 1 → phi code (n+4) 79 [.dat (.str (Str.ofString w.name)), .dat a] = .exc ⟨4, []⟩ [.dat (.str (Str.ofString w.name)), .dat a] := fun a ha hw => by
    subst ha
    exact single_no n w hw a hW hd hb
  clear hW hd hb
  cases w
  case ccx =>
    match W, hl with
    | [a, b, c], hq =>
      unfold dsv Wd.name Wd.ini Wd.cls at *
      simp only [List.map_cons, List.map_nil] at e1
      clear hl e3 hq
      walk_at "evh"
  case cx =>
    match W, hl with
    | [a, b], hq =>
      unfold dsv Wd.name Wd.ini Wd.cls at *
      simp only [List.map_cons, List.map_nil] at e1
      clear hl e3 hq
      walk_at "evh"
  case cz =>
    match W, hl with
    | [a, b], hq =>
      unfold dsv Wd.name Wd.ini Wd.cls at *
      simp only [List.map_cons, List.map_nil] at e1
      clear hl e3 hq
      walk_at "evh"
  case swap =>
    match W, hl with
    | [a, b], hq =>
      unfold dsv Wd.name Wd.ini Wd.cls at *
      simp only [List.map_cons, List.map_nil] at e1
      clear hl e3 hq
      walk_at "evh"
  all_goals
    match W, hl with
    | [a], hq =>
      have e3 := e3 a rfl rfl
      unfold Wd.name at *
      dsimp only at e3 ⊢
      clear hl e1 hq
      walk_at "evh"
theorem refused_nowire (n : Nat) (w : Wd) (W : List Dv.D) (hl : W.length = w.ar) (hW : pls W = true) (hd : dps W < 20) (hb : ∃ x ∈ W, ¬ GdW W x) : phi code (n+6) 1007 [.dat (.str (Str.ofString w.name)), .dat (.tup W)] = .ok (.dat (.str (Str.ofString "NoWire"))) [.dat (.str (Str.ofString w.name)), .dat (.tup W)] := by
  have e1 := gate_of_nowire n w W hl hW hd hb
  have q1 : eqD (.bl false) (.bl true) = some false := rfl
  obtain ⟨x1, y1, y2, z1, z2, z3⟩ := atE1
  have s2 : sz 2 = true := by decide
  rw [phi_run [.dat (.str (Str.ofString w.name)), .dat (.tup W)] [some (.dat (.str (Str.ofString w.name))), some (.dat (.tup W)), none, none] rfl rfl rfl rfl rfl]
  unfold c__law_refused
  generalize w.name = NM at *
  clear hl hW hd hb
  walk_at "evh"
  unfold catchAs
  walk_at "evh"
theorem class_nowire (n : Nat) (w : Wd) (W : List Dv.D) (hl : W.length = w.ar) (hW : pls W = true) (hd : dps W < 20) (hb : ∃ x ∈ W, ¬ GdW W x) : phi code (n+6) 1008 [.dat (.str (Str.ofString w.name)), .dat (.tup W)] = .ok (.dat (.bl true)) [.dat (.str (Str.ofString w.name)), .dat (.tup W)] := by
  have e1 := made_no n w W hl hW hd hb
  rw [phi_run [.dat (.str (Str.ofString w.name)), .dat (.tup W)] [some (.dat (.str (Str.ofString w.name))), some (.dat (.tup W)), none, none] rfl rfl rfl rfl rfl]
  unfold c__law_class_refused
  generalize w.name = NM at *
  clear hl hW hd hb
  walk_at "evh"
  unfold catchAs
  walk_at "evh"

/-! ### odd wires -/
def odds (r a0 : Nat) : List Dv.D := [.int 5, .int (-1), .bl true, .non, .str (Str.ofString "0"), .int (5 + (r : Int)), .int (a0 : Int), .tup [.int 0], .lst [.int 0]]
theorem pls_set : ∀ {W : List Dv.D} {d : Dv.D} (i : Nat), pls W = true → pl d = true → pls (W.set i d) = true
  | [], _, _, h, _ => h
  | x :: W, d, 0, h, hd => by
    have h' : (pl x && pls W) = true := h
    rw [Bool.and_eq_true] at h'
    show (pl d && pls W) = true
    rw [hd, h'.2]
    rfl
  | x :: W, d, i + 1, h, hd => by
    have h' : (pl x && pls W) = true := h
    rw [Bool.and_eq_true] at h'
    show (pl x && pls (W.set i d)) = true
    rw [h'.1, pls_set i h'.2 hd]
    rfl
theorem dps_set : ∀ {W : List Dv.D} {d : Dv.D} {k : Nat} (i : Nat), dps W < k → dp d < k → dps (W.set i d) < k
  | [], _, _, _, h, _ => h
  | x :: W, d, k, 0, h, hd => by
    have h' : max (dp x) (dps W) < k := h
    show max (dp d) (dps W) < k
    omega
  | x :: W, d, k, i + 1, h, hd => by
    have h' : max (dp x) (dps W) < k := h
    have := dps_set (W := W) (d := d) (k := k) i (by omega) hd
    show max (dp x) (dps (W.set i d)) < k
    omega
theorem odds_pl {r a0 : Nat} {d : Dv.D} (h : d ∈ odds r a0) : pl d = true ∧ dp d < 20 := by
  unfold odds at h
  simp only [List.mem_cons, List.not_mem_nil, or_false] at h
  rcases h with rfl | rfl | rfl | rfl | rfl | rfl | rfl | rfl | rfl
  all_goals first | exact ⟨rfl, by decide⟩ | exact ⟨strOk_of "0", by decide⟩ | exact ⟨rfl, by show 0 < 20; decide⟩
theorem ws_pl (ws : List Nat) : pls (wsD ws) = true ∧ dps (wsD ws) < 20 := ⟨pls_map (f := fun a : Nat => Dv.D.int (a : Int)) (fun _ => rfl) ws, Nat.lt_of_le_of_lt (dps_map (f := fun a : Nat => Dv.D.int (a : Int)) (m := 0) (fun _ => Nat.le_refl _) ws) (by decide)⟩
theorem mem_set' : ∀ {W : List Dv.D} {i : Nat} {d : Dv.D}, i < W.length → d ∈ W.set i d
  | x :: W, 0, d, _ => List.mem_cons_self
  | x :: W, i + 1, d, h => List.mem_cons_of_mem _ (mem_set' (W := W) (by simpa using h))
theorem deqs_set : ∀ {ws : List Nat} {i : Nat} (h : i < ws.length) (d : Dv.D), deqs ((wsD ws).set i d) (wsD ws) = deq d (.int (ws[i] : Nat))
  | a :: ws, 0, _, d => by
    show (deq d (.int (a : Nat)) && deqs (wsD ws) (wsD ws)) = _
    have : deqs (wsD ws) (wsD ws) = true := by
      have := deqs_map (f := fun r : Nat => Dv.D.int (r : Int)) deq_nat ws ws
      rw [decide_eq_true rfl] at this
      exact this
    rw [this, Bool.and_true]
    rfl
  | a :: ws, i + 1, h, d => by
    show (deq (.int (a : Nat)) (.int (a : Nat)) && deqs ((wsD ws).set i d) (wsD ws)) = _
    rw [deq_nat, decide_eq_true rfl, Bool.true_and, deqs_set (by simpa using h) d]
    rfl
theorem eq_wrong {ws : List Nat} {i : Nat} (h : i < ws.length) {r a0 : Nat} {d : Dv.D} (hd : d ∈ odds r a0) : eqD (.tup ((wsD ws).set i d)) (.tup (wsD ws)) = some (deq d (.int (ws[i] : Nat))) := by
  obtain ⟨h1, h2⟩ := ws_pl ws
  obtain ⟨h3, h4⟩ := odds_pl hd
  have h5 := dps_set (k := 20) i h2 h4
  rw [eqD_ok (d := .tup ((wsD ws).set i d)) (e := .tup (wsD ws)) (pls_set i h1 h3) h1 (by show dps _ + 1 ≤ 64; omega) (by show dps _ + 1 ≤ 64; omega)]
  show some (deqs _ _) = _
  rw [deqs_set h]
theorem wrong_bad {ws : List Nat} {i : Nat} (h : i < ws.length) {r : Nat} {d : Dv.D} (hd : d ∈ odds r (ws.getD 0 0)) (hq : deq d (.int (ws[i] : Nat)) = false) : ∃ x ∈ (wsD ws).set i d, ¬ GdW ((wsD ws).set i d) x := by
  have hl : i < (wsD ws).length := by unfold wsD; rw [List.length_map]; exact h
  refine ⟨d, mem_set' hl, ?_⟩
  rintro ⟨j, e, h0, h4, hc⟩
  obtain ⟨p1, p2⟩ := ws_pl ws
  obtain ⟨p3, p4⟩ := odds_pl hd
  have p5 := dps_set (k := 20) i p2 p4
  unfold odds at hd
  simp only [List.mem_cons, List.not_mem_nil, or_false] at hd
  rcases hd with rfl | rfl | rfl | rfl | rfl | rfl | rfl | rfl | rfl
  all_goals first | (cases e; done) | skip
  · injection e with e; omega
  · injection e with e; omega
  · injection e with e; omega
  · injection e with e
    subst e
    rw [deq_nat, decide_eq_false_iff_not] at hq
    rw [cntD_ok (x := .int ((ws.getD 0 0 : Nat) : Int)) rfl (pls_set i p1 p3) (by show 0 ≤ 64; omega) (by omega)] at hc
    injection hc with hc
    match ws, i, h with
    | a :: ws, 0, _ => exact hq rfl
    | a :: ws, i + 1, h =>
      have e1 : (wsD (a :: ws)).set (i + 1) (.int (((a :: ws).getD 0 0 : Nat) : Int)) = .int (a : Int) :: (wsD ws).set i (.int (a : Int)) := rfl
      rw [e1, List.countP_cons] at hc
      have e2 : 0 < ((wsD ws).set i (.int (a : Int))).countP fun z => deq z (.int (((a :: ws).getD 0 0 : Nat) : Int)) := by
        rw [List.countP_pos_iff]
        refine ⟨.int (a : Int), mem_set' (by unfold wsD; rw [List.length_map]; simpa using h), ?_⟩
        show deq (.int (a : Int)) (.int (a : Int)) = true
        rw [deq_nat, decide_eq_true rfl]
      have e3 : deq (.int (a : Int)) (.int (((a :: ws).getD 0 0 : Nat) : Int)) = true := by
        show deq (.int (a : Int)) (.int (a : Int)) = true
        rw [deq_nat, decide_eq_true rfl]
      rw [e3] at hc
      simp only [if_true] at hc
      omega
theorem slice_ok : ∀ (L : List Dv.D) (j : Nat), L.length ≤ 3 → j < L.length → slD (.tup L) none (some (j : Int)) = some (.dat (.tup (L.take j))) ∧ slD (.tup L) (some ((j : Int) + 1)) none = some (.dat (.tup (L.drop (j + 1))))
  | [], j, _, h => absurd h (Nat.not_lt_zero _)
  | [a], 0, _, _ => ⟨rfl, rfl⟩
  | [a, b], 0, _, _ => ⟨rfl, rfl⟩
  | [a, b], 1, _, _ => ⟨rfl, rfl⟩
  | [a, b, c], 0, _, _ => ⟨rfl, rfl⟩
  | [a, b, c], 1, _, _ => ⟨rfl, rfl⟩
  | [a, b, c], 2, _, _ => ⟨rfl, rfl⟩
  | [a], j + 1, _, h => absurd h (by simp)
  | [a, b], j + 2, _, h => absurd h (by simp)
  | [a, b, c], j + 3, _, h => absurd h (by simp)
  | _ :: _ :: _ :: _ :: _, _, h, _ => absurd h (by simp)
/-! ### what is no gate -/
theorem gate_of_not_tuple (n : Nat) (a b : Dv.D) (h : isiD b (.bt "tuple") = some false) : phi code (n+2) 80 [.dat a, .dat b] = .exc ⟨3, []⟩ [.dat a, .dat b] := by
  have s8 : sz 8 = true := by decide
  rw [phi_run [.dat a, .dat b] [some (.dat a), some (.dat b), none] rfl rfl rfl rfl rfl]
  unfold c_gate_of
  walk_at "evh"
theorem gate_of_not_str (n : Nat) (a b : Dv.D) (h1 : isiD b (.bt "tuple") = some true) (h : isiD a (.bt "str") = some false) : phi code (n+2) 80 [.dat a, .dat b] = .exc ⟨3, []⟩ [.dat a, .dat b] := by
  have s8 : sz 8 = true := by decide
  rw [phi_run [.dat a, .dat b] [some (.dat a), some (.dat b), none] rfl rfl rfl rfl rfl]
  unfold c_gate_of
  walk_at "evh"
/-- of words and how many wires -/
theorem gate_of_word (n : Nat) (s : String) (W : List Dv.D) (h1 : ¬ (s ∈ ["x", "y", "z", "s", "r", "t", "u", "h"] ∧ W.length = 1)) (h2 : ¬ ((s = "cx" ∨ s = "cz" ∨ s = "swap") ∧ W.length = 2)) (h3 : ¬ (s = "ccx" ∧ W.length = 3)) : phi code (n+2) 80 [.dat (.str (Str.ofString s)), .dat (.tup W)] = .exc ⟨3, []⟩ [.dat (.str (Str.ofString s)), .dat (.tup W)] := by
  have hin := fun a => inD_ofs a ["x", "y", "z", "s", "r", "t", "u", "h"]
  have s8 : sz 8 = true := by decide
  have q1 := eqD_ofs s "cx"
  have q2 := eqD_ofs s "cz"
  have q3 := eqD_ofs s "swap"
  have q4 := eqD_ofs s "ccx"
  have hi := hin s
  simp only [List.map_cons, List.map_nil] at hi
  have d1 : decide ((W.length : Int) = 1) = decide (W.length = 1) := by rw [decide_eq_decide]; omega
  have d2 : decide ((W.length : Int) = 2) = decide (W.length = 2) := by rw [decide_eq_decide]; omega
  have d3 : decide ((W.length : Int) = 3) = decide (W.length = 3) := by rw [decide_eq_decide]; omega
  have c1 : decide (s ∈ ["x", "y", "z", "s", "r", "t", "u", "h"]) = false ∨ decide (W.length = 1) = false := by
    by_cases h : s ∈ ["x", "y", "z", "s", "r", "t", "u", "h"]
    · exact .inr (decide_eq_false fun z => h1 ⟨h, z⟩)
    · exact .inl (decide_eq_false h)
  have c2 : (decide (s = "cx") = false ∧ decide (s = "cz") = false ∧ decide (s = "swap") = false) ∨ decide (W.length = 2) = false := by
    by_cases h : W.length = 2
    · exact .inl ⟨decide_eq_false fun z => h2 ⟨.inl z, h⟩, decide_eq_false fun z => h2 ⟨.inr (.inl z), h⟩, decide_eq_false fun z => h2 ⟨.inr (.inr z), h⟩⟩
    · exact .inr (decide_eq_false h)
  have c3 : decide (s = "ccx") = false ∨ decide (W.length = 3) = false := by
    by_cases h : s = "ccx"
    · exact .inr (decide_eq_false fun z => h3 ⟨h, z⟩)
    · exact .inl (decide_eq_false h)
  rw [phi_run [.dat (.str (Str.ofString s)), .dat (.tup W)] [some (.dat (.str (Str.ofString s))), some (.dat (.tup W)), none] rfl rfl rfl rfl rfl]
  unfold c_gate_of
  generalize decide (s ∈ ["x", "y", "z", "s", "r", "t", "u", "h"]) = g1 at *
  generalize decide (s = "cx") = g2 at *
  generalize decide (s = "cz") = g3 at *
  generalize decide (s = "swap") = g4 at *
  generalize decide (s = "ccx") = g5 at *
  generalize Str.ofString s = S at *
  generalize decide (W.length = 1) = l1 at *
  generalize decide (W.length = 2) = l2 at *
  generalize decide (W.length = 3) = l3 at *
  clear h1 h2 h3 hin
  rcases c1 with rfl | rfl <;> rcases c2 with ⟨rfl, rfl, rfl⟩ | rfl <;> rcases c3 with rfl | rfl
  · walk_at "evh"
  · cases g5 <;> walk_at "evh"
  · cases g2 <;> cases g3 <;> cases g4 <;> walk_at "evh"
  · cases g2 <;> cases g3 <;> cases g4 <;> cases g5 <;> walk_at "evh"
  · cases g1 <;> walk_at "evh"
  · cases g1 <;> cases g5 <;> walk_at "evh"
  · cases g1 <;> cases g2 <;> cases g3 <;> cases g4 <;> walk_at "evh"
  · cases g1 <;> cases g2 <;> cases g3 <;> cases g4 <;> cases g5 <;> walk_at "evh"
def upN : Wd → String
  | .x => "X" | .y => "Y" | .z => "Z" | .s => "S" | .r => "R" | .t => "T" | .u => "U" | .h => "H" | .cx => "CX" | .cz => "CZ" | .swap => "SWAP" | .ccx => "CCX"
theorem up_ok (w : Wd) : Txt.upper (Str.ofString w.name) = Str.ofString (upN w) := by cases w <;> decide +kernel
theorem sp_ok (w : Wd) : Str.ofString w.name ++ Str.ofString " " = Str.ofString (w.name ++ " ") := by cases w <;> decide +kernel
theorem refused_nogate (n : Nat) (a b : Dv.D) (e1 : phi code (n+5) 80 [.dat a, .dat b] = .exc ⟨3, []⟩ [.dat a, .dat b]) : phi code (n+6) 1007 [.dat a, .dat b] = .ok (.dat (.str (Str.ofString "NoGate"))) [.dat a, .dat b] := by
  have q1 : eqD (.bl true) (.bl false) = some false := rfl
  obtain ⟨x1, y1, y2, z1, z2, z3⟩ := atE1
  have s2 : sz 2 = true := by decide
  rw [phi_run [.dat a, .dat b] [some (.dat a), some (.dat b), none, none] rfl rfl rfl rfl rfl]
  unfold c__law_refused
  walk_at "evh"
  unfold catchAs
  walk_at "evh"
def noneL (w : Wd) (ws : List Nat) : List Dv.D := [.tup [.str (Str.ofString w.name), .tup (wsD ws ++ [.int 4, .int 4, .int 4])], .tup [.str (Str.ofString w.name), .tup []], .tup [.str (Str.ofString w.name), .lst (wsD ws)], .tup [.str (Str.ofString "w"), .tup (wsD ws)], .tup [.str (Str.ofString ""), .tup [.int 0]], .tup [.non, .tup (wsD ws)], .tup [.str (Str.ofString (upN w)), .tup (wsD ws)], .tup [.str (Str.ofString w.name), .non], .tup [.str (Str.ofString (w.name ++ " ")), .tup (wsD ws)], .tup [.str (Str.ofString "cxx"), .tup [.int 5, .int 5, .int 5]], .tup [.str (Str.ofString "x"), .tup [.int 9, .int 9]], .tup [.lst [.str (Str.ofString "x")], .tup (wsD ws)], .tup [.dct [] [], .tup (wsD ws)]]
theorem none_ok (n : Nat) (w : Wd) (ws : List Nat) (hl : ws.length = w.ar) : ∀ p ∈ noneL w ws, ∃ a b, p = .tup [a, b] ∧ phi code (n+6) 1007 [.dat a, .dat b] = .ok (.dat (.str (Str.ofString "NoGate"))) [.dat a, .dat b] := by
  have hW : (wsD ws).length = w.ar := by unfold wsD; rw [List.length_map]; exact hl
  have h1 : 1 ≤ w.ar := by cases w <;> decide
  intro p hp
  unfold noneL at hp
  simp only [List.mem_cons, List.not_mem_nil, or_false] at hp
  rcases hp with rfl | rfl | rfl | rfl | rfl | rfl | rfl | rfl | rfl | rfl | rfl | rfl | rfl
  · refine ⟨_, _, rfl, refused_nogate n _ _ (gate_of_word (n + 3) w.name _ ?_ ?_ ?_)⟩ <;> (rw [List.length_append, hW]; show ¬ (_ ∧ w.ar + 3 = _); omega)
  · exact ⟨_, _, rfl, refused_nogate n _ _ (gate_of_word (n + 3) w.name _ (fun h => by cases h.2) (fun h => by cases h.2) (fun h => by cases h.2))⟩
  · exact ⟨_, _, rfl, refused_nogate n _ _ (gate_of_not_tuple (n + 3) _ _ rfl)⟩
  · exact ⟨_, _, rfl, refused_nogate n _ _ (gate_of_word (n + 3) "w" _ (fun h => absurd h.1 (by decide)) (fun h => absurd h.1 (by decide)) (fun h => absurd h.1 (by decide)))⟩
  · exact ⟨_, _, rfl, refused_nogate n _ _ (gate_of_word (n + 3) "" _ (fun h => absurd h.1 (by decide)) (fun h => absurd h.1 (by decide)) (fun h => absurd h.1 (by decide)))⟩
  · exact ⟨_, _, rfl, refused_nogate n _ _ (gate_of_not_str (n + 3) _ _ rfl rfl)⟩
  · refine ⟨_, _, rfl, refused_nogate n _ _ (gate_of_word (n + 3) (upN w) _ (fun h => absurd h.1 ?_) (fun h => absurd h.1 ?_) (fun h => absurd h.1 ?_))⟩ <;> (cases w <;> decide)
  · exact ⟨_, _, rfl, refused_nogate n _ _ (gate_of_not_tuple (n + 3) _ _ rfl)⟩
  · refine ⟨_, _, rfl, refused_nogate n _ _ (gate_of_word (n + 3) (w.name ++ " ") _ (fun h => absurd h.1 ?_) (fun h => absurd h.1 ?_) (fun h => absurd h.1 ?_))⟩ <;> (cases w <;> decide)
  · exact ⟨_, _, rfl, refused_nogate n _ _ (gate_of_word (n + 3) "cxx" _ (fun h => absurd h.1 (by decide)) (fun h => absurd h.1 (by decide)) (fun h => absurd h.1 (by decide)))⟩
  · exact ⟨_, _, rfl, refused_nogate n _ _ (gate_of_word (n + 3) "x" _ (fun h => absurd h.2 (by decide)) (fun h => absurd h.1 (by decide)) (fun h => absurd h.1 (by decide)))⟩
  · exact ⟨_, _, rfl, refused_nogate n _ _ (gate_of_not_str (n + 3) _ _ rfl rfl)⟩
  · exact ⟨_, _, rfl, refused_nogate n _ _ (gate_of_not_str (n + 3) _ _ rfl rfl)⟩

/-! ### the law -/
def body : CSs := match c_law.body with
  | .cons (.for_ _ _ b) _ => b
  | _ => .nil
theorem at0 : ∀ {ws : List Nat}, 1 ≤ ws.length → L2.atI (wsD ws) 0 = some (.int ((ws.getD 0 0 : Nat) : Int))
  | [], h => absurd h (by decide)
  | a :: r, _ => by
    show L2.atI (.int (a : Int) :: wsD r) ((0 : Nat) : Int) = _
    rw [atI_nat]
    rfl
set_option maxHeartbeats 0 in
theorem turn (n : Nat) (ns : List Int) (k : Nat) (hk : k < ns.length) (a2 a3 a4 a5 a6 a7 a8 : Option SV) :
    ∃ ρ', evSs (phi code (n+6)) 1 body [some (.dat (.scr (ns.map .int))), some (.dat (.int (k : Int))), a2, a3, a4, a5, a6, a7, a8] = .ok .nx ρ' ∧
      ∃ b1 b2 b3 b4 b5 b6 b7 b8, ρ' = [some (.dat (.scr (ns.map .int))), b1, b2, b3, b4, b5, b6, b7, b8] := by
  obtain ⟨c, ek⟩ : ∃ c : Int, L2.atI (ns.map Dv.D.int) (k : Int) = some (.int c) := ⟨ns[k], by rw [atI_nat, List.getElem?_map, List.getElem?_eq_getElem hk]; rfl⟩
  obtain ⟨s0, es0⟩ := law_state_ok (n + 5) c k
  obtain ⟨s1, r5, hr5, e1⟩ := next_nat (n + 5) s0 5 (by omega)
  have em : (1 : Int) + (r5 : Int) = ((1 + r5 : Nat) : Int) := by omega
  obtain ⟨s2, g, hg, e2⟩ := drawn_gate_ok (n + 4) s1 (1 + r5) (by omega) (by omega)
  have h5 : 1 + r5 ≤ 5 := by omega
  generalize 1 + r5 = m at *
  have hws := ws_le hg h5
  have g1 := gate_of_ok (n + 1) g.w g.ws hg.ar hg.nd hws
  have g2 := made_ok (n + 1) g.w g.ws hg.ar hg.nd hws
  have rt := right_ok (n + 1) m h5 g hg
  rw [show (⟨g.w, g.ws⟩ : Gt) = g from rfl] at g1 g2
  have h3 : g.ws.length ≤ 3 := by rw [hg.ar]; exact ar3 g.w
  have h1 : 1 ≤ g.ws.length := by rw [hg.ar]; cases g.w <;> decide
  obtain ⟨s3, r6, hr6, e3⟩ := next_nat (n + 5) s2 1000000 (by omega)
  obtain ⟨s4, j, hj, e4⟩ := next_nat (n + 5) s3 9 (by omega)
  obtain ⟨s5, i, hi, e5⟩ := next_nat (n + 5) s4 g.ws.length (by omega)
  have hod : (odds r6 (g.ws.getD 0 0)).length = 9 := rfl
  obtain ⟨d, hd, ed⟩ : ∃ d, d ∈ odds r6 (g.ws.getD 0 0) ∧ L2.atI (odds r6 (g.ws.getD 0 0)) (j : Int) = some d := by
    have hjl : j < (odds r6 (g.ws.getD 0 0)).length := by omega
    exact ⟨(odds r6 (g.ws.getD 0 0))[j]'hjl, List.getElem_mem hjl, by rw [atI_nat]; exact List.getElem?_eq_getElem hjl⟩
  have a0 : L2.atI (wsD g.ws) 0 = some (.int ((g.ws.getD 0 0 : Nat) : Int)) := by
    exact at0 h1
  have wl : (wsD g.ws).length = g.ws.length := by unfold wsD; rw [List.length_map]
  obtain ⟨sl1, sl2⟩ := slice_ok (wsD g.ws) i (by omega) (by omega)
  have hset : (wsD g.ws).set i d = (wsD g.ws).take i ++ [d] ++ (wsD g.ws).drop (i + 1) := by
    rw [List.set_eq_take_append_cons_drop, if_pos (by omega), List.append_assoc]
    rfl
  have sA : sz (((wsD g.ws).take i).length + 1) = true := decide_eq_true (by rw [List.length_take]; omega)
  have sB : sz (((wsD g.ws).take i ++ [d]).length + ((wsD g.ws).drop (i + 1)).length) = true := decide_eq_true (by rw [List.length_append, List.length_take, List.length_drop, List.length_singleton]; omega)
  have bl : bi .len [.tup (wsD g.ws)] = some (.dat (.int (g.ws.length : Nat))) := by
    show some (FV.dat (.int ((wsD g.ws).length : Nat))) = _
    rw [wl]
  have qe := eq_wrong hi hd
  have rf : deq d (.int (g.ws[i] : Nat)) = false → phi code (n+6) 1007 [.dat (.str (Str.ofString g.w.name)), .dat (.tup ((wsD g.ws).set i d))] = .ok (.dat (.str (Str.ofString "NoWire"))) [.dat (.str (Str.ofString g.w.name)), .dat (.tup ((wsD g.ws).set i d))] ∧ phi code (n+6) 1008 [.dat (.str (Str.ofString g.w.name)), .dat (.tup ((wsD g.ws).set i d))] = .ok (.dat (.bl true)) [.dat (.str (Str.ofString g.w.name)), .dat (.tup ((wsD g.ws).set i d))] := fun hq => by
    have hb := wrong_bad hi hd hq
    obtain ⟨p1, p2⟩ := ws_pl g.ws
    obtain ⟨p3, p4⟩ := odds_pl hd
    have hl : ((wsD g.ws).set i d).length = g.w.ar := by rw [List.length_set, wl, hg.ar]
    exact ⟨refused_nowire n g.w _ hl (pls_set i p1 p3) (dps_set (k := 20) i p2 p4) hb, class_nowire n g.w _ hl (pls_set i p1 p3) (dps_set (k := 20) i p2 p4) hb⟩
  obtain ⟨p, hp, ep⟩ : ∃ p, p ∈ noneL g.w g.ws ∧ L2.atI (noneL g.w g.ws) (((k % 13 : Nat) : Int)) = some p := by
    have hkl : k % 13 < (noneL g.w g.ws).length := by have : (noneL g.w g.ws).length = 13 := rfl; omega
    exact ⟨(noneL g.w g.ws)[k % 13]'hkl, List.getElem_mem hkl, by rw [atI_nat]; exact List.getElem?_eq_getElem hkl⟩
  obtain ⟨pa, pb, rfl, er⟩ := none_ok n g.w g.ws hg.ar p hp
  have hup := up_ok g.w
  have hsp := sp_ok g.w
  have hk13 : (k : Int) % 13 = ((k % 13 : Nat) : Int) := by omega
  have nl : (Str.ofString g.w.name).length ≤ 10 := by cases g.w <;> decide +kernel
  generalize g.ws.getD 0 0 = w0 at *
  generalize deq d (.int (g.ws[i] : Nat)) = q at *
  clear hg hws hp hd hod hi hr6 hj hk hr5
  generalize hsc : some (SV.dat (D.scr (ns.map D.int))) = sc
  have eb : body = .cons (nthS body 0) (.cons (nthS body 1) (.cons (nthS body 2) (.cons (nthS body 3) (.cons (nthS body 4) (.cons (nthS body 5) (.cons (nthS body 6) (.cons (nthS body 7) (.cons (nthS body 8) (.cons (nthS body 9) (.cons (nthS body 10) (.cons (nthS body 11) .nil))))))))))) := rfl
  rw [eb]
  clear eb
  have t0 : evS (phi code (n+6)) 1 (nthS body 0) [sc, some (.dat (.int (k : Int))), a2, a3, a4, a5, a6, a7, a8] = .ok .nx [sc, some (.dat (.int (k : Int))), some (.lst [.int s0]), a3, a4, a5, a6, a7, a8] := by
    subst hsc
    unfold body nthS c_law
    dsimp only
    clear e1 e2 e3 e4 e5 g1 g2 rt er rf qe
    walk_at "evh"
  rw [ss_step t0]
  clear t0 es0 ek
  have t1 : evS (phi code (n+6)) 1 (nthS body 1) [sc, some (.dat (.int (k : Int))), some (.lst [.int s0]), a3, a4, a5, a6, a7, a8] = .ok .nx [sc, some (.dat (.int (k : Int))), some (.lst [.int s2]), some (.dat (.str (Str.ofString g.w.name))), some (.dat (.tup (wsD g.ws))), a5, a6, a7, a8] := by
    replace e1 : phi code (n + 5 + 1) 1000 [.lst [.int s0], .dat (.int 5)] = .ok (.dat (.int (r5 : Int))) [.lst [.int s1], .dat (.int 5)] := e1
    unfold gtD at e2
    unfold body nthS nthS c_law
    dsimp only
    generalize wsD g.ws = W at *
    generalize Str.ofString g.w.name = NM at *
    clear e3 e4 e5 g1 g2 rt er rf qe a0 bl sl1 sl2 sA sB ep hup hsp hset
    walk_at "evh"
  rw [ss_step t1]
  clear t1 e1 e2
  have t2 : evS (phi code (n+6)) 1 (nthS body 2) [sc, some (.dat (.int (k : Int))), some (.lst [.int s2]), some (.dat (.str (Str.ofString g.w.name))), some (.dat (.tup (wsD g.ws))), a5, a6, a7, a8] = .ok .nx [sc, some (.dat (.int (k : Int))), some (.lst [.int s2]), some (.dat (.str (Str.ofString g.w.name))), some (.dat (.tup (wsD g.ws))), a5, a6, a7, a8] := by
    unfold body nthS nthS nthS c_law
    dsimp only
    generalize gD g = GD at *
    generalize wsD g.ws = W at *
    generalize Str.ofString g.w.name = NM at *
    clear e3 e4 e5 er rf qe a0 bl sl1 sl2 sA sB ep hup hsp hset
    walk_at "evh"
  rw [ss_step t2]
  clear t2 g1 g2 rt
  have t3 : evS (phi code (n+6)) 1 (nthS body 3) [sc, some (.dat (.int (k : Int))), some (.lst [.int s2]), some (.dat (.str (Str.ofString g.w.name))), some (.dat (.tup (wsD g.ws))), a5, a6, a7, a8] = .ok .nx [sc, some (.dat (.int (k : Int))), some (.lst [.int s4]), some (.dat (.str (Str.ofString g.w.name))), some (.dat (.tup (wsD g.ws))), some (.dat d), a6, a7, a8] := by
    replace e3 : phi code (n + 5 + 1) 1000 [.lst [.int s2], .dat (.int 1000000)] = .ok (.dat (.int (r6 : Int))) [.lst [.int s3], .dat (.int 1000000)] := e3
    replace e4 : phi code (n + 5 + 1) 1000 [.lst [.int s3], .dat (.int 9)] = .ok (.dat (.int (j : Int))) [.lst [.int s4], .dat (.int 9)] := e4
    have pw : bo .Pow (.int 10) (.int 6) = some (.dat (.int 1000000)) := rfl
    have s9 : sz 9 = true := by decide
    have s1' : sz 1 = true := by decide
    unfold odds at ed
    unfold body nthS nthS nthS nthS c_law
    dsimp only
    generalize wsD g.ws = W at *
    generalize Str.ofString g.w.name = NM at *
    clear e5 er rf qe bl sl1 sl2 sA sB ep hup hsp hset
    walk_at "evh"
  rw [ss_step t3]
  clear t3 e3 e4 ed a0
  have t4 : evS (phi code (n+6)) 1 (nthS body 4) [sc, some (.dat (.int (k : Int))), some (.lst [.int s4]), some (.dat (.str (Str.ofString g.w.name))), some (.dat (.tup (wsD g.ws))), some (.dat d), a6, a7, a8] = .ok .nx [sc, some (.dat (.int (k : Int))), some (.lst [.int s5]), some (.dat (.str (Str.ofString g.w.name))), some (.dat (.tup (wsD g.ws))), some (.dat d), some (.dat (.int (i : Int))), a7, a8] := by
    unfold body nthS nthS nthS nthS nthS c_law
    dsimp only
    generalize wsD g.ws = W at *
    generalize Str.ofString g.w.name = NM at *
    clear er rf qe sl1 sl2 sA sB ep hup hsp hset
    walk_at "evh"
  rw [ss_step t4]
  clear t4 e5
  have t5 : evS (phi code (n+6)) 1 (nthS body 5) [sc, some (.dat (.int (k : Int))), some (.lst [.int s5]), some (.dat (.str (Str.ofString g.w.name))), some (.dat (.tup (wsD g.ws))), some (.dat d), some (.dat (.int (i : Int))), a7, a8] = .ok .nx [sc, some (.dat (.int (k : Int))), some (.lst [.int s5]), some (.dat (.str (Str.ofString g.w.name))), some (.dat (.tup (wsD g.ws))), some (.dat d), some (.dat (.int (i : Int))), some (.dat (.tup ((wsD g.ws).set i d))), a8] := by
    rw [hset]
    unfold body nthS nthS nthS nthS nthS nthS c_law
    dsimp only
    have s1' : sz 1 = true := by decide
    generalize (wsD g.ws).take i = P at *
    generalize (wsD g.ws).drop (i + 1) = Q at *
    generalize wsD g.ws = W at *
    generalize Str.ofString g.w.name = NM at *
    clear er rf qe ep hup hsp hset bl
    walk_at "evh"
  rw [ss_step t5]
  clear t5 hset sA sB sl1 sl2
  generalize (wsD g.ws).set i d = WR at *
  have t6 : evS (phi code (n+6)) 1 (nthS body 6) [sc, some (.dat (.int (k : Int))), some (.lst [.int s5]), some (.dat (.str (Str.ofString g.w.name))), some (.dat (.tup (wsD g.ws))), some (.dat d), some (.dat (.int (i : Int))), some (.dat (.tup WR)), a8] = .ok .nx [sc, some (.dat (.int (k : Int))), some (.lst [.int s5]), some (.dat (.str (Str.ofString g.w.name))), some (.dat (.tup (wsD g.ws))), some (.dat d), some (.dat (.int (i : Int))), some (.dat (.tup WR)), a8] := by
    unfold body nthS nthS nthS nthS nthS nthS nthS c_law
    dsimp only
    generalize wsD g.ws = W at *
    generalize Str.ofString g.w.name = NM at *
    clear er ep hup hsp bl
    cases q
    · obtain ⟨f1, f2⟩ := rf rfl
      clear rf
      walk_at "evh"
    · clear rf
      walk_at "evh"
  rw [ss_step t6]
  clear t6
  have t7 : evS (phi code (n+6)) 1 (nthS body 7) [sc, some (.dat (.int (k : Int))), some (.lst [.int s5]), some (.dat (.str (Str.ofString g.w.name))), some (.dat (.tup (wsD g.ws))), some (.dat d), some (.dat (.int (i : Int))), some (.dat (.tup WR)), a8] = .ok .nx [sc, some (.dat (.int (k : Int))), some (.lst [.int s5]), some (.dat (.str (Str.ofString g.w.name))), some (.dat (.tup (wsD g.ws))), some (.dat d), some (.dat (.int (i : Int))), some (.dat (.tup WR)), a8] := by
    unfold body nthS nthS nthS nthS nthS nthS nthS nthS c_law
    dsimp only
    generalize wsD g.ws = W at *
    generalize Str.ofString g.w.name = NM at *
    clear er ep hup hsp bl
    cases q
    · obtain ⟨f1, f2⟩ := rf rfl
      clear rf
      walk_at "evh"
    · clear rf
      walk_at "evh"
  rw [ss_step t7]
  clear t7 rf qe
  have t8 : evS (phi code (n+6)) 1 (nthS body 8) [sc, some (.dat (.int (k : Int))), some (.lst [.int s5]), some (.dat (.str (Str.ofString g.w.name))), some (.dat (.tup (wsD g.ws))), some (.dat d), some (.dat (.int (i : Int))), some (.dat (.tup WR)), a8] = .ok .nx [sc, some (.dat (.int (k : Int))), some (.lst [.int s5]), some (.dat (.str (Str.ofString g.w.name))), some (.dat (.tup (wsD g.ws))), some (.dat d), some (.dat (.int (i : Int))), some (.dat (.tup WR)), some (.lst ((noneL g.w g.ws).take 6))] := by
    have mu : bo .Mult (.tup [.int 4]) (.int 3) = some (.dat (.tup [.int 4, .int 4, .int 4])) := rfl
    have s0' : sz 0 = true := by decide
    have s1' : sz 1 = true := by decide
    have s2' : sz 2 = true := by decide
    have s6' : sz 6 = true := by decide
    have sC : sz ((wsD g.ws).length + 3) = true := decide_eq_true (by omega)
    have tk : (noneL g.w g.ws).take 6 = [.tup [.str (Str.ofString g.w.name), .tup (wsD g.ws ++ [.int 4, .int 4, .int 4])], .tup [.str (Str.ofString g.w.name), .tup []], .tup [.str (Str.ofString g.w.name), .lst (wsD g.ws)], .tup [.str (Str.ofString "w"), .tup (wsD g.ws)], .tup [.str (Str.ofString ""), .tup [.int 0]], .tup [.non, .tup (wsD g.ws)]] := rfl
    rw [tk]
    unfold body nthS nthS nthS nthS nthS nthS nthS nthS nthS c_law
    dsimp only
    generalize wsD g.ws = W at *
    generalize Str.ofString g.w.name = NM at *
    clear er ep hup hsp bl tk wl
    walk_at "evh"
  rw [ss_step t8]
  clear t8
  have t9 : evS (phi code (n+6)) 1 (nthS body 9) [sc, some (.dat (.int (k : Int))), some (.lst [.int s5]), some (.dat (.str (Str.ofString g.w.name))), some (.dat (.tup (wsD g.ws))), some (.dat d), some (.dat (.int (i : Int))), some (.dat (.tup WR)), some (.lst ((noneL g.w g.ws).take 6))] = .ok .nx [sc, some (.dat (.int (k : Int))), some (.lst [.int s5]), some (.dat (.str (Str.ofString g.w.name))), some (.dat (.tup (wsD g.ws))), some (.dat d), some (.dat (.int (i : Int))), some (.dat (.tup WR)), some (.lst ((noneL g.w g.ws).take 6 ++ ((noneL g.w g.ws).drop 6).take 5))] := by
    have s1' : sz 1 = true := by decide
    have s2' : sz 2 = true := by decide
    have s3' : sz 3 = true := by decide
    have s5' : sz 5 = true := by decide
    have sD : sz (((noneL g.w g.ws).take 6).length + 5) = true := by show sz 11 = true; decide
    have sE : sz ((Str.ofString g.w.name).length + (Str.ofString " ").length) = true := by
      have l1 : (Str.ofString " ").length = 1 := by decide +kernel
      exact decide_eq_true (by omega)
    have uu : decide ((Str.ofString g.w.name).length ≤ 5592405) = true := decide_eq_true (by omega)
    have bu : bm .upper (.str (Str.ofString g.w.name)) [] = some (.dat (.str (Str.ofString (upN g.w)))) := by
      show (if decide ((Str.ofString g.w.name).length ≤ 5592405) then some (FV.dat (.str (Txt.upper (Str.ofString g.w.name)))) else none) = _
      rw [uu, if_pos rfl, hup]
    have tk : ((noneL g.w g.ws).drop 6).take 5 = [.tup [.str (Str.ofString (upN g.w)), .tup (wsD g.ws)], .tup [.str (Str.ofString g.w.name), .non], .tup [.str (Str.ofString (g.w.name ++ " ")), .tup (wsD g.ws)], .tup [.str (Str.ofString "cxx"), .tup [.int 5, .int 5, .int 5]], .tup [.str (Str.ofString "x"), .tup [.int 9, .int 9]]] := rfl
    rw [tk, ← hsp]
    unfold body nthS nthS nthS nthS nthS nthS nthS nthS nthS nthS c_law
    dsimp only
    generalize (noneL g.w g.ws).take 6 = N6 at *
    generalize wsD g.ws = W at *
    generalize Str.ofString g.w.name = NM at *
    generalize Str.ofString (upN g.w) = UP at *
    clear er ep hup hsp bl tk uu
    walk_at "evh"
  rw [ss_step t9]
  clear t9
  have t10 : evS (phi code (n+6)) 1 (nthS body 10) [sc, some (.dat (.int (k : Int))), some (.lst [.int s5]), some (.dat (.str (Str.ofString g.w.name))), some (.dat (.tup (wsD g.ws))), some (.dat d), some (.dat (.int (i : Int))), some (.dat (.tup WR)), some (.lst ((noneL g.w g.ws).take 6 ++ ((noneL g.w g.ws).drop 6).take 5))] = .ok .nx [sc, some (.dat (.int (k : Int))), some (.lst [.int s5]), some (.dat (.str (Str.ofString g.w.name))), some (.dat (.tup (wsD g.ws))), some (.dat d), some (.dat (.int (i : Int))), some (.dat (.tup WR)), some (.lst (noneL g.w g.ws))] := by
    have s1' : sz 1 = true := by decide
    have s2' : sz 2 = true := by decide
    have sD : sz (((noneL g.w g.ws).take 6 ++ ((noneL g.w g.ws).drop 6).take 5).length + 2) = true := by show sz 13 = true; decide
    have tk : noneL g.w g.ws = ((noneL g.w g.ws).take 6 ++ ((noneL g.w g.ws).drop 6).take 5) ++ [.tup [.lst [.str (Str.ofString "x")], .tup (wsD g.ws)], .tup [.dct [] [], .tup (wsD g.ws)]] := rfl
    generalize hN : (noneL g.w g.ws).take 6 ++ ((noneL g.w g.ws).drop 6).take 5 = N11 at *
    rw [tk]
    unfold body nthS nthS nthS nthS nthS nthS nthS nthS nthS nthS nthS c_law
    dsimp only
    generalize wsD g.ws = W at *
    generalize Str.ofString g.w.name = NM at *
    clear er ep hup hsp bl tk hN
    walk_at "evh"
  rw [ss_step t10]
  clear t10
  have t11 : evS (phi code (n+6)) 1 (nthS body 11) [sc, some (.dat (.int (k : Int))), some (.lst [.int s5]), some (.dat (.str (Str.ofString g.w.name))), some (.dat (.tup (wsD g.ws))), some (.dat d), some (.dat (.int (i : Int))), some (.dat (.tup WR)), some (.lst (noneL g.w g.ws))] = .ok .nx [sc, some (.dat (.int (k : Int))), some (.lst [.int s5]), some (.dat (.str (Str.ofString g.w.name))), some (.dat (.tup (wsD g.ws))), some (.dat d), some (.dat (.int (i : Int))), some (.dat (.tup WR)), some (.lst (noneL g.w g.ws))] := by
    obtain ⟨x1, y1, y2, z1, z2, z3⟩ := atE1
    have c13 : decide ((0 : Int) < 13) = true := rfl
    unfold body nthS nthS nthS nthS nthS nthS nthS nthS nthS nthS nthS nthS c_law
    dsimp only
    generalize noneL g.w g.ws = NL at *
    generalize ((k % 13 : Nat) : Int) = K at *
    generalize wsD g.ws = W at *
    generalize Str.ofString g.w.name = NM at *
    clear hup hsp bl
    walk_at "evh"
  rw [ss_step t11]
  exact ⟨_, rfl, _, _, _, _, _, _, _, _, rfl⟩
theorem law_true (n : Nat) (ns : List Int) (hl : ns.length ≤ 63) : phi code (n + 7) 1009 [.dat (.scr (ns.map .int))] = .ok (.dat (.bl true)) [.dat (.scr (ns.map .int))] :=
  law_loop (N := 9) (M := (ns.map Dv.D.int).length) (body := body) (it := .rng1 (.bc .len (.cons (.var 0) .nil))) rfl rfl (rng_len (Φ := phi code (n+6)) (sc := ns.map .int) (r := List.replicate 8 none) (by rw [List.length_map]; exact hl))
    (fun ρ => ∃ b1 b2 b3 b4 b5 b6 b7 b8, ρ = [some (.dat (.scr (ns.map .int))), b1, b2, b3, b4, b5, b6, b7, b8]) ⟨_, _, _, _, _, _, _, _, rfl⟩ fun k ρ hk ⟨b1, b2, b3, b4, b5, b6, b7, b8, h⟩ => by
      subst h
      rw [List.length_map] at hk
      exact turn n ns k hk _ _ _ _ _ _ _

end Dv.Law
end
section
namespace Dv.Law
open PySem Dv L2
set_option maxHeartbeats 0 in
theorem rows : Rows Dv.Hd.S Dv.Hd.ds := ⟨⟨by decide +kernel, fun _ _ _ _ _ _ us hl => match us, hl with | [_], _ => rfl⟩,
  ⟨by decide +kernel, fun _ _ _ _ _ _ us hl => match us, hl with | [_, _, _, _, _], _ => rfl⟩,
  ⟨by decide +kernel, fun _ _ _ _ _ _ us hl => match us, hl with | [_], _ => rfl⟩,
  ⟨by decide +kernel, fun _ _ _ _ _ _ us hl => match us, hl with | [_, _], _ => rfl⟩,
  ⟨by decide +kernel, fun _ _ _ _ _ _ us hl => match us, hl with | [_, _], _ => rfl⟩,
  ⟨by decide +kernel, fun _ _ _ _ _ _ us hl => match us, hl with | [_, _], _ => rfl⟩,
  ⟨by decide +kernel, fun _ _ _ _ _ _ us hl => match us, hl with | [_, _], _ => rfl⟩,
  ⟨by decide +kernel, fun _ _ _ _ _ _ us hl => match us, hl with | [_, _], _ => rfl⟩,
  ⟨by decide +kernel, fun _ _ _ _ _ _ us hl => match us, hl with | [_], _ => rfl⟩,
  ⟨by decide +kernel, fun _ _ _ _ _ _ us hl => match us, hl with | [_], _ => rfl⟩,
  ⟨by decide +kernel, fun _ _ _ _ _ _ us hl => match us, hl with | [_, _], _ => rfl⟩,
  ⟨by decide +kernel, fun _ _ _ _ _ _ us hl => match us, hl with | [_], _ => rfl⟩,
  ⟨by decide +kernel, fun _ _ _ _ _ _ us hl => match us, hl with | [_], _ => rfl⟩,
  ⟨by decide +kernel, fun _ _ _ _ _ _ us hl => match us, hl with | [_], _ => rfl⟩,
  ⟨by decide +kernel, fun _ _ _ _ _ _ us hl => match us, hl with | [_], _ => rfl⟩,
  ⟨by decide +kernel, fun _ _ _ _ _ _ us hl => match us, hl with | [_], _ => rfl⟩,
  ⟨by decide +kernel, fun _ _ _ _ _ _ us hl => match us, hl with | [_], _ => rfl⟩,
  ⟨by decide +kernel, fun _ _ _ _ _ _ us hl => match us, hl with | [_, _], _ => rfl⟩,
  ⟨by decide +kernel, fun _ _ _ _ _ _ us hl => match us, hl with | [_, _], _ => rfl⟩,
  ⟨by decide +kernel, fun _ _ _ _ _ _ us hl => match us, hl with | [_, _, _], _ => rfl⟩,
  ⟨by decide +kernel, fun _ _ _ _ _ _ us hl => match us, hl with | [_, _], _ => rfl⟩,
  ⟨by decide +kernel, fun _ _ _ _ _ _ us hl => match us, hl with | [_], _ => rfl⟩,
  ⟨by decide +kernel, fun _ _ _ _ _ _ us hl => match us, hl with | [_], _ => rfl⟩,
  ⟨by decide +kernel, fun _ _ _ _ _ _ us hl => match us, hl with | [_, _], _ => rfl⟩,
  ⟨by decide +kernel, fun _ _ _ _ _ _ us hl => match us, hl with | [_, _], _ => rfl⟩,
  ⟨by decide +kernel, fun _ _ _ _ _ _ us hl => match us, hl with | [_], _ => rfl⟩,
  ⟨by decide +kernel, fun _ _ _ _ _ _ us hl => match us, hl with | [_, _], _ => rfl⟩,
  ⟨by decide +kernel, fun _ _ _ _ _ _ us hl => match us, hl with | [_, _], _ => rfl⟩,
  ⟨by decide +kernel, fun _ _ _ _ _ _ us hl => match us, hl with | [_], _ => rfl⟩,
  ⟨by decide +kernel, fun _ _ _ _ _ _ us hl => match us, hl with | [_], _ => rfl⟩,
  ⟨by decide +kernel, fun _ _ _ _ _ _ us hl => match us, hl with | [_, _], _ => rfl⟩,
  ⟨by decide +kernel, fun _ _ _ _ _ _ us hl => match us, hl with | [_], _ => rfl⟩,
  ⟨by decide +kernel, fun _ _ _ _ _ _ us hl => match us, hl with | [_], _ => rfl⟩,
  ⟨by decide +kernel, fun _ _ _ _ _ _ us hl => match us, hl with | [_], _ => rfl⟩,
  ⟨by decide +kernel, fun _ _ _ _ _ _ us hl => match us, hl with | [_], _ => rfl⟩,
  ⟨by decide +kernel, fun _ _ _ _ _ _ us hl => match us, hl with | [_], _ => rfl⟩,
  ⟨by decide +kernel, fun _ _ _ _ _ _ us hl => match us, hl with | [_], _ => rfl⟩,
  ⟨by decide +kernel, fun _ _ _ _ _ _ us hl => match us, hl with | [_], _ => rfl⟩,
  ⟨by decide +kernel, fun _ _ _ _ _ _ us hl => match us, hl with | [_], _ => rfl⟩,
  ⟨by decide +kernel, fun _ _ _ _ _ _ us hl => match us, hl with | [_], _ => rfl⟩,
  ⟨by decide +kernel, fun _ _ _ _ _ _ us hl => match us, hl with | [_], _ => rfl⟩,
  ⟨by decide +kernel, fun _ _ _ _ _ _ us hl => match us, hl with | [_], _ => rfl⟩,
  ⟨by decide +kernel, fun _ _ _ _ _ _ us hl => match us, hl with | [_], _ => rfl⟩,
  ⟨by decide +kernel, fun _ _ _ _ _ _ us hl => match us, hl with | [_], _ => rfl⟩,
  ⟨by decide +kernel, fun _ _ _ _ _ _ us hl => match us, hl with | [_], _ => rfl⟩,
  ⟨by decide +kernel, fun _ _ _ _ _ _ us hl => match us, hl with | [_, _], _ => rfl⟩,
  ⟨by decide +kernel, fun _ _ _ _ _ _ us hl => match us, hl with | [_], _ => rfl⟩,
  ⟨by decide +kernel, fun _ _ _ _ _ _ us hl => match us, hl with | [_, _], _ => rfl⟩,
  ⟨by decide +kernel, fun _ _ _ _ _ _ us hl => match us, hl with | [_, _, _], _ => rfl⟩,
  ⟨by decide +kernel, fun _ _ _ _ _ _ us hl => match us, hl with | [_], _ => rfl⟩,
  ⟨by decide +kernel, fun _ _ _ _ _ _ us hl => match us, hl with | [_], _ => rfl⟩,
  ⟨by decide +kernel, fun _ _ _ _ _ _ us hl => match us, hl with | [_, _], _ => rfl⟩,
  ⟨by decide +kernel, fun _ _ _ _ _ _ us hl => match us, hl with | [_, _, _], _ => rfl⟩,
  ⟨by decide +kernel, fun _ _ _ _ _ _ us hl => match us, hl with | [_], _ => rfl⟩,
  ⟨by decide +kernel, fun _ _ _ _ _ _ us hl => match us, hl with | [_, _], _ => rfl⟩,
  ⟨by decide +kernel, fun _ _ _ _ _ _ us hl => match us, hl with | [_, _, _], _ => rfl⟩,
  ⟨by decide +kernel, fun _ _ _ _ _ _ us hl => match us, hl with | [_], _ => rfl⟩,
  ⟨by decide +kernel, fun _ _ _ _ _ _ us hl => match us, hl with | [_], _ => rfl⟩,
  ⟨by decide +kernel, fun _ _ _ _ _ _ us hl => match us, hl with | [_, _], _ => rfl⟩,
  ⟨by decide +kernel, fun _ _ _ _ _ _ us hl => match us, hl with | [_, _, _, _], _ => rfl⟩,
  ⟨by decide +kernel, fun _ _ _ _ _ _ us hl => match us, hl with | [_], _ => rfl⟩,
  ⟨by decide +kernel, fun _ _ _ _ _ _ us hl => match us, hl with | [_], _ => rfl⟩,
  ⟨by decide +kernel, fun _ _ _ _ _ _ us hl => match us, hl with | [_], _ => rfl⟩,
  ⟨by decide +kernel, fun _ _ _ _ _ _ us hl => match us, hl with | [_, _], _ => rfl⟩,
  ⟨by decide +kernel, fun _ _ _ _ _ _ us hl => match us, hl with | [_, _], _ => rfl⟩,
  ⟨by decide +kernel, fun _ _ _ _ _ _ us hl => match us, hl with | [_, _], _ => rfl⟩,
  ⟨by decide +kernel, fun _ _ _ _ _ _ us hl => match us, hl with | [_, _], _ => rfl⟩,
  ⟨by decide +kernel, fun _ _ _ _ _ _ us hl => match us, hl with | [_, _], _ => rfl⟩,
  ⟨by decide +kernel, fun _ _ _ _ _ _ us hl => match us, hl with | [_, _], _ => rfl⟩,
  ⟨by decide +kernel, fun _ _ _ _ _ _ us hl => match us, hl with | [_, _], _ => rfl⟩,
  ⟨by decide +kernel, fun _ _ _ _ _ _ us hl => match us, hl with | [_, _], _ => rfl⟩,
  ⟨by decide +kernel, fun _ _ _ _ _ _ us hl => match us, hl with | [_, _], _ => rfl⟩,
  ⟨by decide +kernel, fun _ _ _ _ _ _ us hl => match us, hl with | [_, _, _], _ => rfl⟩,
  ⟨by decide +kernel, fun _ _ _ _ _ _ us hl => match us, hl with | [_, _], _ => rfl⟩,
  ⟨by decide +kernel, fun _ _ _ _ _ _ us hl => match us, hl with | [_, _], _ => rfl⟩,
  ⟨by decide +kernel, fun _ _ _ _ _ _ us hl => match us, hl with | [_], _ => rfl⟩, trivial⟩
abbrev hk : PySem.W.Hook := hookV 4 Dv.Hd.S (Dv.Hd.ds.map rowD)
def ob (s : PySem.W.SharedT) : AlV := obsVG 4 Dv.Hd.S (Dv.Hd.ds.map rowD) (HandSHeadRun.getT s)
theorem ob_eq (s : PySem.W.SharedT) : ob s = hk.obs s.abs := obsVG_eq (HandSHeadRun.getT_eq s)
theorem run (w : World) : HandSHeadRun.RunEq Dv.Hd.R (PySem.W.view Dv.Hd.R.prog [48]) hk ob 30000 Dv.Hd.loose w := fun os => run_join (Dv.Hd.run0 w os) (Dv.Hd.runA w os) (Dv.Hd.runB w os) (Dv.Hd.runC w os) (Dv.Hd.runD w os) (Dv.Hd.runE w os)
end Dv.Law
open PySem PySem.W PySem.Calls PyProof.Rows
set_option maxHeartbeats 0 in
theorem Dv.Law.holds (L : Dv.LawOk Dv.Law.code (29 + 1) 1009) : PySem.Challenge.rw_bothwire_k32_gates_told.Holds := by
  w_on; o_law
  refine HandSHeadRun.head_any (r := Dv.Hd.R) (q := view Dv.Hd.R.prog [48]) (H := Dv.Law.hk) (ob := Dv.Law.ob) (M := 30000) (loose := Dv.Hd.loose) (d := HandSHeadRun.topDef Dv.Hd.R.prog 48) (kwd := []) Dv.Law.ob_eq
    (by kernel_rfl) (fun s => by kernel_rfl) Dv.Law.run (by kernel_rfl) (by kernel_rfl) (by kernel_rfl) (by rfl) (by first | assumption | decide +kernel) (by decide +kernel) ⟨rfl, rfl, rfl, rfl, rfl, by decide +kernel⟩ ?hw ?hc
  case hw => w_witness2
  case hc => exact Dv.law_end (m := 29) (law := 1009) (c := Dv.Law.c_law) (d := Dv.Hd.d_law) rfl (by kernel_rfl) ⟨rfl, by decide, by decide⟩ (by kernel_rfl) (by decide +kernel) rfl rfl rfl rfl Dv.Law.rows L
namespace Dv.Law
end Dv.Law
end
set_option maxRecDepth 100000 in
set_option maxHeartbeats 8000000 in
theorem PySem.Challenge.cw_bothwire_k32_gates_told_holds : PySem.Challenge.rw_bothwire_k32_gates_told.Holds := by
  exact Dv.Law.holds fun ns hl => ⟨_, Dv.Law.law_true 23 ns hl⟩
