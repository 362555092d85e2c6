import PyProof.Rows.All
import Wide.All
import OpenK.AllK
import Wide.FinOn
import HandS.ForMost
import HandS.ForExc
import HandS.RaiseMore
import HandS.FStr
import HandS.Style
import HandS.Star
import HandS.Defaults
import HandS.ExcOwn
import HandS.MakeKw
import HandS.TupAny
import HandS.StrMore
import HandS.Zip
import HandS.ClsMeth
import HandS.Property
import HandS.IsInst
import PyProof.ReprRoads
import KE.KUnpackStar
import KE.GoesEnum
import HandS.Ends
import HandS.HeadEnd
import HandS.HeadNt
import HandS.Head2
import HandS.MakeKwOnly
import HandS.Words
import PySem.Challenge.RW_cutranks_k57_texts_of_schemes
import HandS.Head0
import HandS.Head1
import KE.KStateDown
set_option Elab.async false
set_option maxRecDepth 100000
set_option linter.all false
set_option autoImplicit false
set_option maxHeartbeats 4000000
/-! DLa: data (D), how a value stands for data (Rp), the state of a def as data (Sat), what a reading does to data (TD, TDS). -/
namespace DL
open PySem PySem.Spec L2

/-- plain data: what a value is, without addresses -/
inductive D where
  | non | bl (b : Bool) | int (i : Int) | str (x : Str)
  | tup (xs : List D) | lst (xs : List D)
  | dct (kvs : List (Key × D))
  | obj (c : Str) (fs : List (Str × D))
  | cls (c : Str)
  | fro (xs : List D)
  deriving Inhabited

/-- H' knows what H knows -/
def Ext (H H' : Hp) : Prop := ∀ a o, H a = some o → H' a = some o
theorem Ext.refl (H : Hp) : Ext H H := fun _ _ h => h
theorem Ext.trans {H H1 H2 : Hp} (a : Ext H H1) (b : Ext H1 H2) : Ext H H2 := fun x o h => b x o (a x o h)
theorem Ext.new {H : Hp} {p : Addr} {o : HO} (h : H p = none) : Ext H (upd H p o) := fun a u e => by
  rw [upd_ne (ne_of_none e h)]; exact e
theorem Ext.sqL {K : PySem.W.Frag} {H H' : Hp} {a : Addr} {xs : List V} (e : Ext H H') (h : SqL K H a xs) : SqL K H' a xs := by
  rcases h with (h | ⟨o, h⟩) | h
  · exact .inl (.inl (e _ _ h))
  · exact .inl (.inr ⟨o, e _ _ h⟩)
  · exact .inr h
theorem Ext.sqT {K : PySem.W.Frag} {H H' : Hp} {a : Addr} {xs : List V} (e : Ext H H') (h : SqT K H a xs) : SqT K H' a xs := by
  rcases h with (h | ⟨o, h⟩) | h
  · exact .inl (.inl (e _ _ h))
  · exact .inl (.inr ⟨o, e _ _ h⟩)
  · exact .inr h

section
variable (K : PySem.W.Frag) (mg : Str → Option Value) (H : Hp)
mutual
inductive Rp : V → D → Prop
  | non : Rp .non .non
  | bl (b : Bool) : Rp (.bl b) (.bl b)
  | int (i : Int) : Rp (.int i) (.int i)
  | str (x : Str) : Rp (.str x) (.str x)
  | tup {a : Addr} {vs : List V} {ds : List D} : SqT K H a vs → RpL vs ds → Rp (.ref a) (.tup ds)
  | lst {a : Addr} {vs : List V} {ds : List D} : H a = some (.lst vs) → RpL vs ds → Rp (.ref a) (.lst ds)
  | fro {a : Addr} {vs : List V} {ds : List D} : SqL K H a vs → RpL vs ds → Rp (.ref a) (.fro ds)
  | dct {a : Addr} {vs : List (Key × V)} {ds : List (Key × D)} : H a = some (.dK vs) → RpK vs ds → Rp (.ref a) (.dct ds)
  | obj {a C dx : Addr} {c : Str} {fs : List (Str × V)} {ds : List (Str × D)} : mg c = some (.ref C) → H a = some (.ins C dx fs) → RpF fs ds → Rp (.ref a) (.obj c ds)
  | cls {C : Addr} {c : Str} : mg c = some (.ref C) → Rp (.ref C) (.cls c)
inductive RpL : List V → List D → Prop
  | nil : RpL [] []
  | cons {v : V} {vs : List V} {d : D} {ds : List D} : Rp v d → RpL vs ds → RpL (v :: vs) (d :: ds)
inductive RpK : List (Key × V) → List (Key × D) → Prop
  | nil : RpK [] []
  | cons {k : Key} {v : V} {vs : List (Key × V)} {d : D} {ds : List (Key × D)} : Rp v d → RpK vs ds → RpK ((k, v) :: vs) ((k, d) :: ds)
inductive RpF : List (Str × V) → List (Str × D) → Prop
  | nil : RpF [] []
  | cons {k : Str} {v : V} {vs : List (Str × V)} {d : D} {ds : List (Str × D)} : Rp v d → RpF vs ds → RpF ((k, v) :: vs) ((k, d) :: ds)
end
end

section
variable {K : PySem.W.Frag} {mg : Str → Option Value} {H H' : Hp}
mutual
theorem Rp.mono (e : Ext H H') : ∀ {v : V} {d : D}, Rp K mg H v d → Rp K mg H' v d
  | _, _, .non => .non
  | _, _, .bl b => .bl b
  | _, _, .int i => .int i
  | _, _, .str x => .str x
  | _, _, .tup h r => .tup (e.sqT h) (RpL.mono e r)
  | _, _, .lst h r => .lst (e _ _ h) (RpL.mono e r)
  | _, _, .fro h r => .fro (e.sqL h) (RpL.mono e r)
  | _, _, .dct h r => .dct (e _ _ h) (RpK.mono e r)
  | _, _, .obj m h r => .obj m (e _ _ h) (RpF.mono e r)
  | _, _, .cls m => .cls m
theorem RpL.mono (e : Ext H H') : ∀ {vs : List V} {ds : List D}, RpL K mg H vs ds → RpL K mg H' vs ds
  | _, _, .nil => .nil
  | _, _, .cons a r => .cons (Rp.mono e a) (RpL.mono e r)
theorem RpK.mono (e : Ext H H') : ∀ {vs : List (Key × V)} {ds : List (Key × D)}, RpK K mg H vs ds → RpK K mg H' vs ds
  | _, _, .nil => .nil
  | _, _, .cons a r => .cons (Rp.mono e a) (RpK.mono e r)
theorem RpF.mono (e : Ext H H') : ∀ {vs : List (Str × V)} {ds : List (Str × D)}, RpF K mg H vs ds → RpF K mg H' vs ds
  | _, _, .nil => .nil
  | _, _, .cons a r => .cons (Rp.mono e a) (RpF.mono e r)
end
theorem RpL.length : ∀ {vs : List V} {ds : List D}, RpL K mg H vs ds → vs.length = ds.length
  | _, _, .nil => rfl
  | _, _, .cons _ r => congrArg (· + 1) r.length
theorem RpK.length : ∀ {vs : List (Key × V)} {ds : List (Key × D)}, RpK K mg H vs ds → vs.length = ds.length
  | _, _, .nil => rfl
  | _, _, .cons _ r => congrArg (· + 1) r.length
theorem RpF.length : ∀ {vs : List (Str × V)} {ds : List (Str × D)}, RpF K mg H vs ds → vs.length = ds.length
  | _, _, .nil => rfl
  | _, _, .cons _ r => congrArg (· + 1) r.length
theorem RpL.get : ∀ {vs : List V} {ds : List D} {i : Nat} {d : D}, RpL K mg H vs ds → ds[i]? = some d → ∃ v, vs[i]? = some v ∧ Rp K mg H v d
  | _, _, i, _, .nil, e => by simp at e
  | _, _, 0, _, .cons a _, e => by simp at e; subst e; exact ⟨_, rfl, a⟩
  | _, _, i + 1, d, .cons _ r, e => by
    obtain ⟨v, h1, h2⟩ := RpL.get (i := i) (d := d) r (by simpa using e)
    exact ⟨v, by simpa using h1, h2⟩
theorem RpL.app : ∀ {vs ws : List V} {ds es : List D}, RpL K mg H vs ds → RpL K mg H ws es → RpL K mg H (vs ++ ws) (ds ++ es)
  | _, _, _, _, .nil, s => s
  | _, _, _, _, .cons a r, s => .cons a (RpL.app r s)
theorem RpL.one {v : V} {d : D} (h : Rp K mg H v d) : RpL K mg H [v] [d] := .cons h .nil
theorem RpL.take : ∀ {vs : List V} {ds : List D} (n : Nat), RpL K mg H vs ds → RpL K mg H (vs.take n) (ds.take n)
  | _, _, 0, _ => .nil
  | _, _, _ + 1, .nil => .nil
  | _, _, n + 1, .cons a r => .cons a (RpL.take n r)
theorem RpL.drop : ∀ {vs : List V} {ds : List D} (n : Nat), RpL K mg H vs ds → RpL K mg H (vs.drop n) (ds.drop n)
  | _, _, 0, r => r
  | _, _, _ + 1, .nil => .nil
  | _, _, n + 1, .cons _ r => RpL.drop n r
theorem RpL.set {v : V} {d : D} (h : Rp K mg H v d) : ∀ {vs : List V} {ds : List D} (i : Nat), RpL K mg H vs ds → RpL K mg H (vs.set i v) (ds.set i d)
  | _, _, _, .nil => .nil
  | _, _, 0, .cons _ r => .cons h r
  | _, _, i + 1, .cons a r => .cons a (RpL.set h i r)
theorem RpL.snoc {vs : List V} {ds : List D} {v : V} {d : D} (r : RpL K mg H vs ds) (h : Rp K mg H v d) : RpL K mg H (vs ++ [v]) (ds ++ [d]) := r.app (.one h)
theorem RpF.look : ∀ {vs : List (Str × V)} {ds : List (Str × D)} {f : Str}, RpF K mg H vs ds → (∀ d, ds.lookup f = some d → ∃ v, vs.lookup f = some v ∧ Rp K mg H v d) ∧ (ds.lookup f = none → vs.lookup f = none)
  | _, _, f, .nil => ⟨fun d e => by simp at e, fun _ => rfl⟩
  | _, _, f, .cons (k := k) (v := v) (vs := vs) (d := d) (ds := ds) a r => by
    have ih := RpF.look (f := f) r
    refine ⟨fun d' e => ?_, fun e => ?_⟩
    · rw [List.lookup_cons] at e ⊢
      cases hb : f == k with
      | true => rw [hb] at e; cases e; exact ⟨v, rfl, a⟩
      | false => rw [hb] at e; exact ih.1 d' e
    · rw [List.lookup_cons] at e ⊢
      cases hb : f == k with
      | true => rw [hb] at e; cases e
      | false => rw [hb] at e; exact ih.2 e
/-- a field put -/
def putD (f : Str) (d : D) : List (Str × D) → List (Str × D)
  | [] => [(f, d)]
  | (k, e) :: r => if k = f then (f, d) :: r else (k, e) :: putD f d r
end

/-! ### the state of a def, as data -/
/-- a slot: nothing known; data; an object of this def alone, its content at place k of mu -/
inductive Sl where
  | no
  | dat (d : D)
  | own (k : Nat)
  deriving Inhabited

/-- H without what F and pi hide -/
def hidB (F : Addr → Bool) (pi : List (Option Addr)) (a : Addr) : Bool := F a || pi.contains (some a)
def hid (F : Addr → Bool) (pi : List (Option Addr)) (H : Hp) : Hp := fun a => if hidB F pi a = true then none else H a
theorem hid_le {F : Addr → Bool} {pi : List (Option Addr)} {H : Hp} : Ext (hid F pi H) H := fun a o e => by
  unfold hid at e
  split at e
  · cases e
  · exact e
theorem hid_of {F : Addr → Bool} {pi : List (Option Addr)} {H : Hp} {a : Addr} (h : hidB F pi a = false) : hid F pi H a = H a := by
  unfold hid; rw [if_neg (by rw [h]; exact Bool.false_ne_true)]
theorem hid_on {F : Addr → Bool} {pi : List (Option Addr)} {H : Hp} {a : Addr} (h : hidB F pi a = true) : hid F pi H a = none := by
  unfold hid; rw [if_pos h]
theorem hid_some {F : Addr → Bool} {pi : List (Option Addr)} {H : Hp} {a : Addr} {o : HO} (e : hid F pi H a = some o) : hidB F pi a = false ∧ H a = some o := by
  cases h : hidB F pi a with
  | true => rw [hid_on h] at e; cases e
  | false => rw [hid_of h] at e; exact ⟨rfl, e⟩

/-- a top-level object and its content -/
inductive RpO (K : PySem.W.Frag) (mg : Str → Option Value) (Hh : Hp) : HO → D → Prop
  | lst {vs : List V} {ds : List D} : RpL K mg Hh vs ds → RpO K mg Hh (.lst vs) (.lst ds)
  | dct {vs : List (Key × V)} {ds : List (Key × D)} : RpK K mg Hh vs ds → RpO K mg Hh (.dK vs) (.dct ds)
  | obj {C dx : Addr} {c : Str} {fs : List (Str × V)} {ds : List (Str × D)} : mg c = some (.ref C) → RpF K mg Hh fs ds → RpO K mg Hh (.ins C dx fs) (.obj c ds)
theorem RpO.mono {K : PySem.W.Frag} {mg : Str → Option Value} {H H' : Hp} {o : HO} {d : D} (e : Ext H H') (h : RpO K mg H o d) : RpO K mg H' o d := by
  cases h with
  | lst r => exact .lst (r.mono e)
  | dct r => exact .dct (r.mono e)
  | obj m r => exact .obj m (r.mono e)
theorem RpO.rp {K : PySem.W.Frag} {mg : Str → Option Value} {H : Hp} {a : Addr} {o : HO} {d : D} (h : RpO K mg H o d) (e : H a = some o) : Rp K mg H (.ref a) d := by
  cases h with
  | lst r => exact .lst e r
  | dct r => exact .dct e r
  | obj m r => exact .obj m e r

structure Sat (K : PySem.W.Frag) (mg : Str → Option Value) (B : Hp) (F : Addr → Bool) (pi : List (Option Addr)) (rho : List Sl) (mu : List D) (σ : L2.St) (H : Hp) : Prop where
  len : pi.length = mu.length
  slen : rho.length = σ.length
  inj : ∀ (i j : Nat) (a : Addr), pi[i]? = some (some a) → pi[j]? = some (some a) → i = j
  own : ∀ (k : Nat) (a : Addr) (d : D), pi[k]? = some (some a) → mu[k]? = some d → B a = none ∧ F a = false ∧ ∃ o, H a = some o ∧ RpO K mg (hid F pi H) o d
  frz : ∀ k : Nat, pi[k]? = some none → mu[k]? = some .non
  forn : ∀ a, F a = true → B a ≠ none
  ext : Ext B H
  dat : ∀ (i : Nat) (d : D), rho[i]? = some (.dat d) → ∃ v, σ[i]? = some (some v) ∧ Rp K mg (hid F pi H) v d
  ref : ∀ (i k : Nat), rho[i]? = some (.own k) → ∃ a, pi[k]? = some (some a) ∧ σ[i]? = some (some (.ref a))
theorem mem_pi {pi : List (Option Addr)} {a : Addr} : pi.contains (some a) = true ↔ ∃ k : Nat, pi[k]? = some (some a) := by
  rw [List.contains_iff_mem, List.mem_iff_getElem?]
section
variable {K : PySem.W.Frag} {mg : Str → Option Value} {B : Hp} {F : Addr → Bool} {pi : List (Option Addr)} {rho : List Sl} {mu : List D} {σ : L2.St} {H H' : Hp}
theorem Sat.some_of (S : Sat K mg B F pi rho mu σ H) {a : Addr} (h : hidB F pi a = true) : ∃ o, H a = some o := by
  unfold hidB at h
  rcases Bool.or_eq_true_iff.mp h with h | h
  · cases e : B a with
    | none => exact absurd e (S.forn a h)
    | some o => exact ⟨o, S.ext a o e⟩
  · obtain ⟨k, hk⟩ := mem_pi.mp h
    have hl : k < mu.length := by rw [← S.len]; exact (List.getElem?_eq_some_iff.mp hk).1
    obtain ⟨_, _, o, e, _⟩ := S.own k a mu[k] hk (by simp [hl])
    exact ⟨o, e⟩
theorem Sat.new_hid (S : Sat K mg B F pi rho mu σ H) {a : Addr} (h : H a = none) : hidB F pi a = false := by
  cases e : hidB F pi a with
  | false => rfl
  | true =>
    obtain ⟨o, e'⟩ := S.some_of e
    rw [h] at e'; cases e'
/-- what is known stays known where H is extended -/
theorem Sat.hext (_ : Sat K mg B F pi rho mu σ H) (e : Ext H H') : Ext (hid F pi H) (hid F pi H') := fun a o h => by
  obtain ⟨h1, h2⟩ := hid_some h
  rw [hid_of h1]
  exact e a o h2
/-- the state stands over a heap that only knows more -/
theorem Sat.ext' (S : Sat K mg B F pi rho mu σ H) (e : Ext H H') : Sat K mg B F pi rho mu σ H' where
  len := S.len
  slen := S.slen
  inj := S.inj
  own := fun k a d h1 h2 => by
    obtain ⟨b1, b2, o, b3, b4⟩ := S.own k a d h1 h2
    exact ⟨b1, b2, o, e _ _ b3, b4.mono (S.hext e)⟩
  frz := S.frz
  forn := S.forn
  ext := S.ext.trans e
  dat := fun i d h => by
    obtain ⟨v, h1, h2⟩ := S.dat i d h
    exact ⟨v, h1, h2.mono (S.hext e)⟩
  ref := S.ref
end

/-! ### exceptions -/
structure Exn where
  c : Str
  fs : List (Str × D)
  deriving Inhabited
/-- an exception that lies there: its class, its own dict -/
def RpX (K : PySem.W.Frag) (mg : Str → Option Value) (H : Hp) (cls : Value) (dd : Option Addr) (x : Exn) : Prop :=
  ∃ C d fs, mg x.c = some (.ref C) ∧ cls = .ref C ∧ dd = some d ∧ H d = some (.xd fs) ∧ RpF K mg H fs x.fs

/-! ### expressions -/
inductive Rs (α : Type) where
  | ok (a : α) (mu : List D)
  | err (x : Exn) (mu : List D)
  | stuck
  deriving Inhabited
abbrev FE := List Sl → List D → Rs D
abbrev FA := List Sl → List D → Rs (List D)
def Rs.bind {α β : Type} (r : Rs α) (f : α → List D → Rs β) : Rs β := match r with
  | .ok a mu => f a mu
  | .err x mu => .err x mu
  | .stuck => .stuck
def Rs.ofO {α : Type} (o : Option α) (mu : List D) : Rs α := match o with
  | some a => .ok a mu
  | none => .stuck

section
variable (K : PySem.W.Frag) (mg : Str → Option Value) (W : WX)
/-- what must hold behind, for what an expression gives -/
def ContE (B : Hp) (F : Addr → Bool) (pi : List (Option Addr)) (rho : List Sl) (σ : L2.St) (H : Hp) (Q : VK) : Rs D → Prop
  | .ok d mu => ∀ v H', Sat K mg B F pi rho mu σ H' → Ext (hid F pi H) (hid F pi H') → Rp K mg (hid F pi H') v d → Q v H'
  | .err x mu => ∀ cls dd H', Sat K mg B F pi rho mu σ H' → Ext (hid F pi H) (hid F pi H') → RpX K mg (hid F pi H') cls dd x → W cls dd σ H'
  | .stuck => False
def TD (t : TE) (f : FE) : Prop := ∀ (B : Hp) (F : Addr → Bool) (pi : List (Option Addr)) (rho : List Sl) (mu : List D) (σ : L2.St) (H : Hp) (Q : VK),
  Sat K mg B F pi rho mu σ H → ContE K mg W B F pi rho σ H Q (f rho mu) → t σ H Q
def ContA (B : Hp) (F : Addr → Bool) (pi : List (Option Addr)) (rho : List Sl) (σ : L2.St) (H : Hp) (Q : List V → Hp → Prop) : Rs (List D) → Prop
  | .ok ds mu => ∀ vs H', Sat K mg B F pi rho mu σ H' → Ext (hid F pi H) (hid F pi H') → RpL K mg (hid F pi H') vs ds → Q vs H'
  | .err x mu => ∀ cls dd H', Sat K mg B F pi rho mu σ H' → Ext (hid F pi H) (hid F pi H') → RpX K mg (hid F pi H') cls dd x → W cls dd σ H'
  | .stuck => False
def TDA (t : TA) (f : FA) : Prop := ∀ (B : Hp) (F : Addr → Bool) (pi : List (Option Addr)) (rho : List Sl) (mu : List D) (σ : L2.St) (H : Hp) (Q : List V → Hp → Prop),
  Sat K mg B F pi rho mu σ H → ContA K mg W B F pi rho σ H Q (f rho mu) → t σ H Q
/-- a test: its answer is a bool -/
def ContT (B : Hp) (F : Addr → Bool) (pi : List (Option Addr)) (rho : List Sl) (σ : L2.St) (H : Hp) (Q : Bool → Hp → Prop) : Rs D → Prop
  | .ok (.bl b) mu => ∀ H', Sat K mg B F pi rho mu σ H' → Ext (hid F pi H) (hid F pi H') → Q b H'
  | .err x mu => ∀ cls dd H', Sat K mg B F pi rho mu σ H' → Ext (hid F pi H) (hid F pi H') → RpX K mg (hid F pi H') cls dd x → W cls dd σ H'
  | _ => False
def TDT (t : TT) (f : FE) : Prop := ∀ (B : Hp) (F : Addr → Bool) (pi : List (Option Addr)) (rho : List Sl) (mu : List D) (σ : L2.St) (H : Hp) (Q : Bool → Hp → Prop),
  Sat K mg B F pi rho mu σ H → ContT K mg W B F pi rho σ H Q (f rho mu) → t σ H Q
end
end DL

set_option maxHeartbeats 4000000
/-! DLb: expressions: what they do to data. -/
namespace DL
open PySem PySem.Spec L2

/-! ### combinators -/
def eVar (i : Nat) : FE := fun rho mu => match rho[i]? with
  | some (.dat d) => .ok d mu
  | _ => .stuck
def eC (d : D) : FE := fun _ mu => .ok d mu
def e1 (g : D → Option D) (f : FE) : FE := fun rho mu => (f rho mu).bind fun a mu1 => Rs.ofO (g a) mu1
def e2 (g : D → D → Option D) (f1 f2 : FE) : FE := fun rho mu => (f1 rho mu).bind fun a mu1 => (f2 rho mu1).bind fun b mu2 => Rs.ofO (g a b) mu2
def eA (g : List D → Option D) (f : FA) : FE := fun rho mu => (f rho mu).bind fun as mu1 => Rs.ofO (g as) mu1
def eIf (c f1 f2 : FE) : FE := fun rho mu => (c rho mu).bind fun a mu1 => match a with
  | .bl true => f1 rho mu1
  | .bl false => f2 rho mu1
  | _ => .stuck
def eAnd (f1 f2 : FE) : FE := fun rho mu => (f1 rho mu).bind fun a mu1 => match a with
  | .bl true => f2 rho mu1
  | .bl false => .ok (.bl false) mu1
  | _ => .stuck
def eOr (f1 f2 : FE) : FE := fun rho mu => (f1 rho mu).bind fun a mu1 => match a with
  | .bl true => .ok (.bl true) mu1
  | .bl false => f2 rho mu1
  | _ => .stuck
def gNot : D → Option D
  | .bl b => some (.bl (!b))
  | _ => none
def eNot : FE → FE := e1 gNot
/-- a < b < c: b once -/
def eChain (g g' : D → D → Option D) (f1 f2 f3 : FE) : FE := fun rho mu => (f1 rho mu).bind fun a mu1 => (f2 rho mu1).bind fun b mu2 => match g a b with
  | some (.bl true) => (f3 rho mu2).bind fun c mu3 => (match g' b c with
    | some (.bl r) => .ok (.bl r) mu3
    | _ => .stuck)
  | some (.bl false) => .ok (.bl false) mu2
  | _ => .stuck
def aNil : FA := fun _ mu => .ok [] mu
def aCons (f : FE) (r : FA) : FA := fun rho mu => (f rho mu).bind fun a mu1 => (r rho mu1).bind fun as mu2 => .ok (a :: as) mu2
def itemsD : D → Option (List D)
  | .tup xs => some xs
  | .lst xs => some xs
  | .fro xs => some xs
  | _ => none
def aStar (f : FE) (r : FA) : FA := fun rho mu => (f rho mu).bind fun a mu1 => match itemsD a with
  | some xs => (r rho mu1).bind fun as mu2 => .ok (xs ++ as) mu2
  | none => .stuck

section
variable {K : PySem.W.Frag} {mg : Str → Option Value} {W : WX} {B : Hp} {F : Addr → Bool} {pi : List (Option Addr)} {rho : List Sl} {mu mu' : List D} {σ : L2.St} {H H1 : Hp}
theorem ContE.up {Q : VK} (e : Ext (hid F pi H) (hid F pi H1)) : ∀ {r : Rs D}, ContE K mg W B F pi rho σ H Q r → ContE K mg W B F pi rho σ H1 Q r
  | .ok _ _, h => fun v H' S e' r => h v H' S (e.trans e') r
  | .err _ _, h => fun c d H' S e' r => h c d H' S (e.trans e') r
  | .stuck, h => h
theorem ContA.up {Q : List V → Hp → Prop} (e : Ext (hid F pi H) (hid F pi H1)) : ∀ {r : Rs (List D)}, ContA K mg W B F pi rho σ H Q r → ContA K mg W B F pi rho σ H1 Q r
  | .ok _ _, h => fun v H' S e' r => h v H' S (e.trans e') r
  | .err _ _, h => fun c d H' S e' r => h c d H' S (e.trans e') r
  | .stuck, h => h
theorem ContT.up {Q : Bool → Hp → Prop} (e : Ext (hid F pi H) (hid F pi H1)) : ∀ {r : Rs D}, ContT K mg W B F pi rho σ H Q r → ContT K mg W B F pi rho σ H1 Q r
  | .ok (.bl _) _, h => fun H' S e' => h H' S (e.trans e')
  | .err _ _, h => fun c d H' S e' r => h c d H' S (e.trans e') r
  | .stuck, h => h
  | .ok .non _, h => h
  | .ok (.int _) _, h => h
  | .ok (.str _) _, h => h
  | .ok (.tup _) _, h => h
  | .ok (.lst _) _, h => h
  | .ok (.dct _) _, h => h
  | .ok (.obj _ _) _, h => h
  | .ok (.cls _) _, h => h
  | .ok (.fro _) _, h => h
/-- one expression, then what follows -/
theorem TD.then {t : TE} {f : FE} (ht : TD K mg W t f) (S : Sat K mg B F pi rho mu σ H) {Q : VK} (kok : ∀ d mu1, f rho mu = .ok d mu1 → ∀ v H', Sat K mg B F pi rho mu1 σ H' → Ext (hid F pi H) (hid F pi H') → Rp K mg (hid F pi H') v d → Q v H')
    (kerr : ∀ x mu1, f rho mu = .err x mu1 → ∀ cls dd H', Sat K mg B F pi rho mu1 σ H' → Ext (hid F pi H) (hid F pi H') → RpX K mg (hid F pi H') cls dd x → W cls dd σ H') (kst : f rho mu ≠ .stuck) : t σ H Q := by
  refine ht B F pi rho mu σ H Q S ?_
  cases e : f rho mu with
  | ok d mu1 => exact kok d mu1 e
  | err x mu1 => exact kerr x mu1 e
  | stuck => exact absurd e kst
theorem TDA.then {t : TA} {f : FA} (ht : TDA K mg W t f) (S : Sat K mg B F pi rho mu σ H) {Q : List V → Hp → Prop} (kok : ∀ d mu1, f rho mu = .ok d mu1 → ∀ v H', Sat K mg B F pi rho mu1 σ H' → Ext (hid F pi H) (hid F pi H') → RpL K mg (hid F pi H') v d → Q v H')
    (kerr : ∀ x mu1, f rho mu = .err x mu1 → ∀ cls dd H', Sat K mg B F pi rho mu1 σ H' → Ext (hid F pi H) (hid F pi H') → RpX K mg (hid F pi H') cls dd x → W cls dd σ H') (kst : f rho mu ≠ .stuck) : t σ H Q := by
  refine ht B F pi rho mu σ H Q S ?_
  cases e : f rho mu with
  | ok d mu1 => exact kok d mu1 e
  | err x mu1 => exact kerr x mu1 e
  | stuck => exact absurd e kst
/-- the first of a bind -/
theorem TD.bind {t : TE} {f : FE} {k : D → List D → Rs D} {Q Q' : VK} (ht : TD K mg W t f) (S : Sat K mg B F pi rho mu σ H) (h : ContE K mg W B F pi rho σ H Q ((f rho mu).bind k))
    (go : ∀ d mu1 v H1, Sat K mg B F pi rho mu1 σ H1 → Ext (hid F pi H) (hid F pi H1) → Rp K mg (hid F pi H1) v d → ContE K mg W B F pi rho σ H1 Q (k d mu1) → Q' v H1) : t σ H Q' := by
  refine ht B F pi rho mu σ H Q' S ?_
  cases e : f rho mu with
  | ok d mu1 => rw [e] at h; exact fun v H' S' e' r => go d mu1 v H' S' e' r (h.up e')
  | err x mu1 => rw [e] at h; exact h
  | stuck => rw [e] at h; exact h
theorem TDA.bind {t : TA} {f : FA} {k : List D → List D → Rs D} {Q : VK} {Q' : List V → Hp → Prop} (ht : TDA K mg W t f) (S : Sat K mg B F pi rho mu σ H) (h : ContE K mg W B F pi rho σ H Q ((f rho mu).bind k))
    (go : ∀ d mu1 v H1, Sat K mg B F pi rho mu1 σ H1 → Ext (hid F pi H) (hid F pi H1) → RpL K mg (hid F pi H1) v d → ContE K mg W B F pi rho σ H1 Q (k d mu1) → Q' v H1) : t σ H Q' := by
  refine ht B F pi rho mu σ H Q' S ?_
  cases e : f rho mu with
  | ok d mu1 => rw [e] at h; exact fun v H' S' e' r => go d mu1 v H' S' e' r (h.up e')
  | err x mu1 => rw [e] at h; exact h
  | stuck => rw [e] at h; exact h
theorem TD.bindA {t : TE} {f : FE} {k : D → List D → Rs (List D)} {Q : List V → Hp → Prop} {Q' : VK} (ht : TD K mg W t f) (S : Sat K mg B F pi rho mu σ H) (h : ContA K mg W B F pi rho σ H Q ((f rho mu).bind k))
    (go : ∀ d mu1 v H1, Sat K mg B F pi rho mu1 σ H1 → Ext (hid F pi H) (hid F pi H1) → Rp K mg (hid F pi H1) v d → ContA K mg W B F pi rho σ H1 Q (k d mu1) → Q' v H1) : t σ H Q' := by
  refine ht B F pi rho mu σ H Q' S ?_
  cases e : f rho mu with
  | ok d mu1 => rw [e] at h; exact fun v H' S' e' r => go d mu1 v H' S' e' r (h.up e')
  | err x mu1 => rw [e] at h; exact h
  | stuck => rw [e] at h; exact h
theorem TDA.bindA {t : TA} {f : FA} {k : List D → List D → Rs (List D)} {Q : List V → Hp → Prop} {Q' : List V → Hp → Prop} (ht : TDA K mg W t f) (S : Sat K mg B F pi rho mu σ H) (h : ContA K mg W B F pi rho σ H Q ((f rho mu).bind k))
    (go : ∀ d mu1 v H1, Sat K mg B F pi rho mu1 σ H1 → Ext (hid F pi H) (hid F pi H1) → RpL K mg (hid F pi H1) v d → ContA K mg W B F pi rho σ H1 Q (k d mu1) → Q' v H1) : t σ H Q' := by
  refine ht B F pi rho mu σ H Q' S ?_
  cases e : f rho mu with
  | ok d mu1 => rw [e] at h; exact fun v H' S' e' r => go d mu1 v H' S' e' r (h.up e')
  | err x mu1 => rw [e] at h; exact h
  | stuck => rw [e] at h; exact h
end

/-! ### operations on values, as data: one, two values; a list of values -/
section
variable (K : PySem.W.Frag) (mg : Str → Option Value)
def RD1 (r : V → Hp → VK → Prop) (g : D → Option D) : Prop := ∀ (F : Addr → Bool) (pi : List (Option Addr)) (H : Hp) (x : V) (a d : D) (Q : VK), (∀ b, H b = none → hidB F pi b = false) →
  Rp K mg (hid F pi H) x a → g a = some d → (∀ v H', Ext H H' → Rp K mg (hid F pi H') v d → Q v H') → r x H Q
def RD2 (r : R2) (g : D → D → Option D) : Prop := ∀ (F : Addr → Bool) (pi : List (Option Addr)) (H : Hp) (x y : V) (a b d : D) (Q : VK), (∀ c, H c = none → hidB F pi c = false) →
  Rp K mg (hid F pi H) x a → Rp K mg (hid F pi H) y b → g a b = some d → (∀ v H', Ext H H' → Rp K mg (hid F pi H') v d → Q v H') → r x y H Q
def RDL (r : List V → Hp → VK → Prop) (g : List D → Option D) : Prop := ∀ (F : Addr → Bool) (pi : List (Option Addr)) (H : Hp) (xs : List V) (as : List D) (d : D) (Q : VK), (∀ c, H c = none → hidB F pi c = false) →
  RpL K mg (hid F pi H) xs as → g as = some d → (∀ v H', Ext H H' → Rp K mg (hid F pi H') v d → Q v H') → r xs H Q
/-- a method of a built-in type: the object, then the arguments -/
def RDM (r : V → List V → Hp → VK → Prop) (g : D → List D → Option D) : Prop := ∀ (F : Addr → Bool) (pi : List (Option Addr)) (H : Hp) (x : V) (xs : List V) (a : D) (as : List D) (d : D) (Q : VK), (∀ c, H c = none → hidB F pi c = false) →
  Rp K mg (hid F pi H) x a → RpL K mg (hid F pi H) xs as → g a as = some d → (∀ v H', Ext H H' → Rp K mg (hid F pi H') v d → Q v H') → r x xs H Q
end
section
variable {K : PySem.W.Frag} {mg : Str → Option Value} {W : WX} {B : Hp} {F : Addr → Bool} {pi : List (Option Addr)} {rho : List Sl} {mu mu' : List D} {σ : L2.St} {H H1 : Hp}
theorem ofO_some {α : Type} {o : Option α} {Q : VK} {o' : Option D} (h : ContE K mg W B F pi rho σ H Q (Rs.ofO o' mu)) : ∃ d, o' = some d ∧ ∀ v H', Sat K mg B F pi rho mu σ H' → Ext (hid F pi H) (hid F pi H') → Rp K mg (hid F pi H') v d → Q v H' := by
  cases o' with
  | none => exact h.elim
  | some d => exact ⟨d, rfl, h⟩
theorem td_var {i : Nat} : TD K mg W (tVar i) (eVar i) := by
  intro B F pi rho mu σ H Q S h
  unfold eVar at h
  split at h
  · rename_i d e
    obtain ⟨v, h1, h2⟩ := S.dat i d e
    exact ⟨v, h1, h v H S (Ext.refl _) h2⟩
  · exact h.elim
theorem td_c {v : V} {d : D} (hv : ∀ H, Rp K mg H v d) : TD K mg W (tC v) (eC d) := fun B F pi rho mu σ H Q S h => h v H S (Ext.refl _) (hv _)
theorem td_un {r : V → Hp → VK → Prop} {g : D → Option D} {ta : TE} {fa : FE} (ha : TD K mg W ta fa) (hr : RD1 K mg r g) : TD K mg W (tUn r ta) (e1 g fa) := by
  intro B F pi rho mu σ H Q S h
  show ta σ H _
  refine TD.bind ha S h fun d mu1 v H1 S1 x1 r1 h1 => ?_
  obtain ⟨z, ez, hz⟩ := ofO_some (α := D) (o := none) h1
  exact hr F pi H1 v d z Q (fun b e => S1.new_hid e) r1 ez fun u H' e r => hz u H' (S1.ext' e) (S1.hext e) r
theorem td_op {r : R2} {g : D → D → Option D} {ta tb : TE} {fa fb : FE} (ha : TD K mg W ta fa) (hb : TD K mg W tb fb) (hr : RD2 K mg r g) : TD K mg W (tOp r ta tb) (e2 g fa fb) := by
  intro B F pi rho mu σ H Q S h
  show ta σ H _
  refine TD.bind ha S h fun d mu1 v H1 S1 x1 r1 h1 => ?_
  refine TD.bind hb S1 h1 fun d2 mu2 v2 H2 S2 x2 r2 h2 => ?_
  obtain ⟨z, ez, hz⟩ := ofO_some (α := D) (o := none) h2
  exact hr F pi H2 v v2 d d2 z Q (fun b e => S2.new_hid e) (r1.mono x2) r2 ez fun u H' e r => hz u H' (S2.ext' e) (S2.hext e) r
theorem td_cb {r : List V → Hp → VK → Prop} {g : List D → Option D} {ta : TA} {fa : FA} (ha : TDA K mg W ta fa) (hr : RDL K mg r g) : TD K mg W (tCB r ta) (eA g fa) := by
  intro B F pi rho mu σ H Q S h
  show ta σ H _
  refine TDA.bind ha S h fun d mu1 v H1 S1 x1 r1 h1 => ?_
  obtain ⟨z, ez, hz⟩ := ofO_some (α := D) (o := none) h1
  exact hr F pi H1 v d z Q (fun b e => S1.new_hid e) r1 ez fun u H' e r => hz u H' (S1.ext' e) (S1.hext e) r
theorem ContT.of {Q : Bool → Hp → Prop} : ∀ {r : Rs D}, ContT K mg W B F pi rho σ H Q r → ContE K mg W B F pi rho σ H (fun x H' => ∃ b, x = .bl b ∧ Q b H') r
  | .ok (.bl b) _, h => fun v H' S e r => by cases r; exact ⟨b, rfl, h H' S e⟩
  | .err _ _, h => h
  | .stuck, h => h
  | .ok .non _, h => h.elim
  | .ok (.int _) _, h => h.elim
  | .ok (.str _) _, h => h.elim
  | .ok (.tup _) _, h => h.elim
  | .ok (.lst _) _, h => h.elim
  | .ok (.dct _) _, h => h.elim
  | .ok (.obj _ _) _, h => h.elim
  | .ok (.cls _) _, h => h.elim
  | .ok (.fro _) _, h => h.elim
theorem tdt_test {t : TE} {f : FE} (ht : TD K mg W t f) : TDT K mg W (tTest t) f := fun B F pi rho mu σ H Q S h => ht B F pi rho mu σ H _ S h.of
theorem tdt_B {t : TE} {f : FE} (ht : TD K mg W t f) : TDT K mg W (tB t) f := fun B F pi rho mu σ H Q S h => ht B F pi rho mu σ H _ S h.of
/-- the first test of a bind -/
theorem TDT.bindE {t : TT} {f : FE} {k : D → List D → Rs D} {Q : VK} {Q' : Bool → Hp → Prop} (ht : TDT K mg W t f) (S : Sat K mg B F pi rho mu σ H) (h : ContE K mg W B F pi rho σ H Q ((f rho mu).bind k)) (kb : ∀ d mu, (∀ b, d ≠ .bl b) → k d mu = .stuck)
    (go : ∀ b mu1 H1, Sat K mg B F pi rho mu1 σ H1 → Ext (hid F pi H) (hid F pi H1) → ContE K mg W B F pi rho σ H1 Q (k (.bl b) mu1) → Q' b H1) : t σ H Q' := by
  refine ht B F pi rho mu σ H Q' S ?_
  cases e : f rho mu with
  | ok d mu1 =>
    rw [e] at h
    have no : (∀ b, d ≠ .bl b) → False := fun n => by
      have h2 : ContE K mg W B F pi rho σ H Q (k d mu1) := h
      rw [kb d mu1 n] at h2; exact h2
    cases d with
    | bl b => exact fun H' S' e' => go b mu1 H' S' e' (ContE.up e' h)
    | non => exact no (by simp)
    | int _ => exact no (by simp)
    | str _ => exact no (by simp)
    | tup _ => exact no (by simp)
    | lst _ => exact no (by simp)
    | dct _ => exact no (by simp)
    | obj _ _ => exact no (by simp)
    | cls _ => exact no (by simp)
    | fro _ => exact no (by simp)
  | err x mu1 => rw [e] at h; exact h
  | stuck => rw [e] at h; exact h
theorem TDT.bindT {t : TT} {f : FE} {k : D → List D → Rs D} {Q : Bool → Hp → Prop} {Q' : Bool → Hp → Prop} (ht : TDT K mg W t f) (S : Sat K mg B F pi rho mu σ H) (h : ContT K mg W B F pi rho σ H Q ((f rho mu).bind k)) (kb : ∀ d mu, (∀ b, d ≠ .bl b) → k d mu = .stuck)
    (go : ∀ b mu1 H1, Sat K mg B F pi rho mu1 σ H1 → Ext (hid F pi H) (hid F pi H1) → ContT K mg W B F pi rho σ H1 Q (k (.bl b) mu1) → Q' b H1) : t σ H Q' := by
  refine ht B F pi rho mu σ H Q' S ?_
  cases e : f rho mu with
  | ok d mu1 =>
    rw [e] at h
    have no : (∀ b, d ≠ .bl b) → False := fun n => by
      have h2 : ContT K mg W B F pi rho σ H Q (k d mu1) := h
      rw [kb d mu1 n] at h2; exact h2
    cases d with
    | bl b => exact fun H' S' e' => go b mu1 H' S' e' (ContT.up e' h)
    | non => exact no (by simp)
    | int _ => exact no (by simp)
    | str _ => exact no (by simp)
    | tup _ => exact no (by simp)
    | lst _ => exact no (by simp)
    | dct _ => exact no (by simp)
    | obj _ _ => exact no (by simp)
    | cls _ => exact no (by simp)
    | fro _ => exact no (by simp)
  | err x mu1 => rw [e] at h; exact h
  | stuck => rw [e] at h; exact h
theorem tdt_and {t u : TT} {f g : FE} (ht : TDT K mg W t f) (hu : TDT K mg W u g) : TDT K mg W (tAnd t u) (eAnd f g) := by
  intro B F pi rho mu σ H Q S h
  refine ht.bindT S h (fun d mu n => ?_) fun b mu1 H1 S1 x1 h1 => ?_
  · cases d with
    | bl b => exact absurd rfl (n b)
    | _ => rfl
  · cases b with
    | true => exact hu B F pi rho mu1 σ H1 Q S1 h1
    | false => exact h1 H1 S1 (Ext.refl _)
theorem tdt_or {t u : TT} {f g : FE} (ht : TDT K mg W t f) (hu : TDT K mg W u g) : TDT K mg W (tOr t u) (eOr f g) := by
  intro B F pi rho mu σ H Q S h
  refine ht.bindT S h (fun d mu n => ?_) fun b mu1 H1 S1 x1 h1 => ?_
  · cases d with
    | bl b => exact absurd rfl (n b)
    | _ => rfl
  · cases b with
    | true => exact h1 H1 S1 (Ext.refl _)
    | false => exact hu B F pi rho mu1 σ H1 Q S1 h1
theorem tdt_not {t : TT} {f : FE} (ht : TDT K mg W t f) : TDT K mg W (tNot t) (eNot f) := by
  intro B F pi rho mu σ H Q S h
  refine ht.bindT S h (fun d mu n => ?_) fun b mu1 H1 S1 x1 h1 => h1 H1 S1 (Ext.refl _)
  cases d with
  | bl b => exact absurd rfl (n b)
  | _ => rfl
theorem td_andV {ta tb : TE} {f g : FE} (ht : TD K mg W ta f) (hu : TD K mg W tb g) : TD K mg W (tAndV ta tb) (eAnd f g) := by
  intro B F pi rho mu σ H Q S h
  show ta σ H _
  refine ht.bind S h fun d mu1 v H1 S1 x1 r1 h1 => ?_
  cases r1 with
  | bl b =>
    refine ⟨b, rfl, ?_⟩
    cases b with
    | true => exact hu B F pi rho mu1 σ H1 Q S1 h1
    | false => exact h1 _ H1 S1 (Ext.refl _) (.bl _)
  | _ => exact h1.elim
theorem td_orV {ta tb : TE} {f g : FE} (ht : TD K mg W ta f) (hu : TD K mg W tb g) : TD K mg W (tOrV ta tb) (eOr f g) := by
  intro B F pi rho mu σ H Q S h
  show ta σ H _
  refine ht.bind S h fun d mu1 v H1 S1 x1 r1 h1 => ?_
  cases r1 with
  | bl b =>
    refine ⟨b, rfl, ?_⟩
    cases b with
    | true => exact h1 _ H1 S1 (Ext.refl _) (.bl _)
    | false => exact hu B F pi rho mu1 σ H1 Q S1 h1
  | _ => exact h1.elim
theorem td_notV {ta : TE} {f : FE} (ht : TD K mg W ta f) : TD K mg W (tNotV ta) (eNot f) := by
  intro B F pi rho mu σ H Q S h
  show ta σ H _
  refine ht.bind S h fun d mu1 v H1 S1 x1 r1 h1 => ?_
  cases r1 with
  | bl b => exact ⟨b, rfl, h1 _ H1 S1 (Ext.refl _) (.bl _)⟩
  | _ => exact h1.elim
theorem td_if {t : TT} {ta tb : TE} {c f g : FE} (hc : TDT K mg W t c) (ht : TD K mg W ta f) (hu : TD K mg W tb g) : TD K mg W (tIf t ta tb) (eIf c f g) := by
  intro B F pi rho mu σ H Q S h
  refine hc.bindE S h (fun d mu n => ?_) fun b mu1 H1 S1 x1 h1 => ?_
  · cases d with
    | bl b => exact absurd rfl (n b)
    | _ => rfl
  · cases b with
    | true => exact ht B F pi rho mu1 σ H1 Q S1 h1
    | false => exact hu B F pi rho mu1 σ H1 Q S1 h1
theorem td_chain {r r' : R2} {g g' : D → D → Option D} {ta tb tc : TE} {fa fb fc : FE} (ha : TD K mg W ta fa) (hb : TD K mg W tb fb) (hc : TD K mg W tc fc) (hr : RD2 K mg r g) (hr' : RD2 K mg r' g') : TD K mg W (tChain r r' ta tb tc) (eChain g g' fa fb fc) := by
  intro B F pi rho mu σ H Q S h
  show ta σ H _
  refine TD.bind ha S h fun d mu1 v H1 S1 x1 r1 h1 => ?_
  refine TD.bind hb S1 h1 fun d2 mu2 v2 H2 S2 x2 r2 h2 => ?_
  cases e : g d d2 with
  | none => simp only [e] at h2; exact h2.elim
  | some z =>
    simp only [e] at h2
    refine hr F pi H2 v v2 d d2 z _ (fun b e => S2.new_hid e) (r1.mono x2) r2 e fun u H' e3 r3 => ?_
    have S3 := S2.ext' e3
    have x3 := S2.hext e3
    cases r3 with
    | bl b =>
      refine ⟨b, rfl, ?_⟩
      cases b with
      | false => exact h2 _ H' S3 x3 (.bl _)
      | true =>
        refine TD.bind hc S3 (ContE.up x3 h2) fun d3 mu3 v3 H4 S4 x4 r4 h4 => ?_
        cases e5 : g' d2 d3 with
        | none => simp only [e5] at h4; exact h4.elim
        | some z' =>
          simp only [e5] at h4
          refine hr' F pi H4 v2 v3 d2 d3 z' Q (fun b e => S4.new_hid e) (r2.mono (x3.trans x4)) r4 e5 fun u5 H5 e6 r6 => ?_
          cases r6 with
          | bl b => exact h4 _ H5 (S4.ext' e6) (S4.hext e6) (.bl _)
          | _ => exact h4.elim
    | _ => exact h2.elim
/-! arguments, displays -/
theorem tda_nil : TDA K mg W tNil aNil := fun B F pi rho mu σ H Q S h => h [] H S (Ext.refl _) .nil
theorem tda_cons {te : TE} {tr : TA} {f : FE} {r : FA} (he : TD K mg W te f) (hr : TDA K mg W tr r) : TDA K mg W (tCons te tr) (aCons f r) := by
  intro B F pi rho mu σ H Q S h
  refine TD.bindA he S h fun d mu1 v H1 S1 x1 r1 h1 => ?_
  refine TDA.bindA hr S1 h1 fun ds mu2 vs H2 S2 x2 r2 h2 => ?_
  exact h2 _ H2 S2 (Ext.refl _) (.cons (r1.mono x2) r2)
/-- a new object -/
theorem Ext.hidNew {F : Addr → Bool} {pi : List (Option Addr)} {H : Hp} {p : Addr} {o : HO} (hn : H p = none) (hp : hidB F pi p = false) : hid F pi (upd H p o) p = some o ∧ Ext (hid F pi H) (hid F pi (upd H p o)) := by
  refine ⟨by rw [hid_of hp, upd_same], fun a u e => ?_⟩
  obtain ⟨h1, h2⟩ := hid_some e
  rw [hid_of h1, upd_ne (ne_of_none h2 hn)]
  exact h2
def gTup (ds : List D) : Option D := if ds.length ≤ 16777216 then some (.tup ds) else none
def gLst (ds : List D) : Option D := if ds.length ≤ 16777216 then some (.lst ds) else none
theorem line_of {n : Nat} (h : n ≤ 16777216) : n ≤ sizeLine := by rw [sizeLine_eq]; exact h
theorem td_tup {ta : TA} {f : FA} (ha : TDA K mg W ta f) : TD K mg W (tTup ta) (eA gTup f) := by
  intro B F pi rho mu σ H Q S h
  show ta σ H _
  refine TDA.bind ha S h fun d mu1 v H1 S1 x1 r1 h1 => ?_
  obtain ⟨z, ez, hz⟩ := ofO_some (α := D) (o := none) h1
  unfold gTup at ez
  split at ez
  · rename_i hl
    cases ez
    refine ⟨by rw [r1.length]; exact line_of hl, fun p hp => ?_⟩
    obtain ⟨n1, n2⟩ := Ext.hidNew (o := .tup v) hp (S1.new_hid hp)
    exact hz _ _ (S1.ext' (Ext.new hp)) n2 (.tup (.inl (.inl n1)) (r1.mono n2))
  · cases ez
theorem td_lst {ta : TA} {f : FA} (ha : TDA K mg W ta f) : TD K mg W (tLst ta) (eA gLst f) := by
  intro B F pi rho mu σ H Q S h
  show ta σ H _
  refine TDA.bind ha S h fun d mu1 v H1 S1 x1 r1 h1 => ?_
  obtain ⟨z, ez, hz⟩ := ofO_some (α := D) (o := none) h1
  unfold gLst at ez
  split at ez
  · rename_i hl
    cases ez
    refine ⟨by rw [r1.length]; exact line_of hl, fun p hp => ?_⟩
    obtain ⟨n1, n2⟩ := Ext.hidNew (o := .lst v) hp (S1.new_hid hp)
    exact hz _ _ (S1.ext' (Ext.new hp)) n2 (.lst n1 (r1.mono n2))
  · cases ez
end
end DL

set_option maxHeartbeats 4000000
/-! DLc: the operations on data, and that the layer's rules do them. -/
namespace DL
open PySem PySem.Spec L2

/-! ### data as the library's own data -/
mutual
def toPy : D → Option PyData
  | .non => some .none
  | .bl b => some (.bool b)
  | .int i => some (.int i)
  | .str x => some (.str x)
  | .tup xs => (toPyL xs).map .tuple
  | .lst xs => (toPyL xs).map .list
  | .fro xs => (toPyL xs).map .list
  | _ => none
def toPyL : List D → Option (List PyData)
  | [] => some []
  | x :: xs => match toPy x, toPyL xs with
    | some p, some ps => some (p :: ps)
    | _, _ => none
end
section
variable {K : PySem.W.Frag} {mg : Str → Option Value} {H : Hp}
mutual
theorem Rp.dp : ∀ {v : V} {d : D} {p : PyData}, Rp K mg H v d → toPy d = some p → Dp K H v p
  | _, _, _, .non, e => by cases e; exact .non
  | _, _, _, .bl b, e => by cases e; exact .bl b
  | _, _, _, .int i, e => by cases e; exact .int i
  | _, _, _, .str x, e => by cases e; exact .str x
  | _, _, p, .tup (ds := ds) h r, e => by
    have e' : (toPyL ds).map PyData.tuple = some p := e
    cases q : toPyL ds with
    | none => rw [q] at e'; cases e'
    | some ps => rw [q] at e'; cases e'; exact .tup h (RpL.dp r q)
  | _, _, p, .lst (ds := ds) h r, e => by
    have e' : (toPyL ds).map PyData.list = some p := e
    cases q : toPyL ds with
    | none => rw [q] at e'; cases e'
    | some ps => rw [q] at e'; cases e'; exact .lst (.inl (.inl h)) (RpL.dp r q)
  | _, _, p, .fro (ds := ds) h r, e => by
    have e' : (toPyL ds).map PyData.list = some p := e
    cases q : toPyL ds with
    | none => rw [q] at e'; cases e'
    | some ps => rw [q] at e'; cases e'; exact .lst h (RpL.dp r q)
theorem RpL.dp : ∀ {vs : List V} {ds : List D} {ps : List PyData}, RpL K mg H vs ds → toPyL ds = some ps → DpAll K H vs ps
  | _, _, _, .nil, e => by cases e; exact .nil
  | _, _, ps, .cons (d := d) (ds := ds) a r, e => by
    have e' : (match toPy d, toPyL ds with
      | some p, some ps => some (p :: ps)
      | _, _ => none) = some ps := e
    cases q1 : toPy d with
    | none => rw [q1] at e'; cases e'
    | some p =>
      cases q2 : toPyL ds with
      | none => rw [q1, q2] at e'; cases e'
      | some ps' => rw [q1, q2] at e'; cases e'; exact .cons (Rp.dp a q1) (RpL.dp r q2)
end
end

/-! ### the functions -/
def gAdd : D → D → Option D
  | .int i, .int j => some (.int (i + j))
  | .str a, .str b => if a.length + b.length ≤ 16777216 then some (.str (a ++ b)) else none
  | .lst xs, .lst ys => if xs.length + ys.length ≤ 16777216 then some (.lst (xs ++ ys)) else none
  | _, _ => none
def gSub : D → D → Option D
  | .int i, .int j => some (.int (i - j))
  | _, _ => none
def gMul : D → D → Option D
  | .int i, .int j => if decide (-(2 ^ 64) < i ∧ i < 2 ^ 64) || decide (-(2 ^ 64) < j ∧ j < 2 ^ 64) then some (.int (i * j)) else none
  | .lst xs, .int k => if xs.length * k.toNat ≤ 16777216 ∧ k < 2 ^ 40 ∧ -(2 ^ 40) < k then some (.lst (List.replicate k.toNat xs).flatten) else none
  | _, _ => none
def gFdiv : D → D → Option D
  | .int i, .int j => if j ≠ 0 ∧ j.natAbs < 1073741824 then some (.int (i.fdiv j)) else none
  | _, _ => none
def gMod : D → D → Option D
  | .int i, .int j => if j ≠ 0 then some (.int (i.fmod j)) else none
  | _, _ => none
def gPow : D → D → Option D
  | .int i, .int j => if 0 ≤ j ∧ j ≤ 1000000 ∧ i.natAbs < 2 ^ 64 then some (.int (i ^ j.toNat)) else none
  | _, _ => none
def gNeg : D → Option D
  | .int i => some (.int (-i))
  | _ => none
def gLt : D → D → Option D
  | .int i, .int j => some (.bl (decide (i < j)))
  | .str a, .str b => some (.bl (decide (a.cps.toList < b.cps.toList)))
  | _, _ => none
def gGt : D → D → Option D
  | .int i, .int j => some (.bl (decide (j < i)))
  | _, _ => none
def gLe : D → D → Option D
  | .int i, .int j => some (.bl (decide (i ≤ j)))
  | _, _ => none
def gGe : D → D → Option D
  | .int i, .int j => some (.bl (decide (j ≤ i)))
  | _, _ => none
def gEq (a b : D) : Option D := match toPy a, toPy b with
  | some p, some q => if SeqAt.shaped p && SeqAt.shaped q then some (.bl (PyData.eqv p q)) else none
  | _, _ => none
def gNe (a b : D) : Option D := match toPy a, toPy b with
  | some p, some q => if SeqAt.shaped p && SeqAt.shaped q then some (.bl (!PyData.eqv p q)) else none
  | _, _ => none
def isNonD : D → Bool
  | .non => true
  | _ => false
def gIs : D → D → Option D
  | a, .non => some (.bl (isNonD a))
  | _, _ => none
def gIsNot : D → D → Option D
  | a, .non => some (.bl (!isNonD a))
  | _, _ => none
/-- x in a text; x in a list or tuple -/
def inD (a b : D) : Option Bool := match b with
  | .str y => match a with
    | .str x => some (!(Builtin.Str.occurrences y x 0 y.length 1).isEmpty)
    | _ => none
  | b => match itemsD b with
    | some ys => match toPy a, toPyL ys with
      | some p, some qs => if SeqAt.shaped p && PyData.canLayAll0 qs then some (qs.any fun q => PyData.eqv q p) else none
      | _, _ => none
    | none => none
def gIn (a b : D) : Option D := (inD a b).map .bl
def gNotIn (a b : D) : Option D := (inD a b).map fun r => .bl (!r)
def gIx : D → D → Option D
  | .lst xs, .int i => atI xs i
  | .fro xs, .int i => atI xs i
  | .tup xs, .int i => atI xs i
  | .str z, .int i => if z.length ≤ 16777216 then (atI z.cps.toList i).map fun c => .str ⟨#[c]⟩ else none
  | _, _ => none
def gLen : List D → Option D
  | [.str x] => if x.length ≤ 16777216 then some (.int x.length) else none
  | [.lst xs] => some (.int xs.length)
  | [.fro xs] => some (.int xs.length)
  | [.tup xs] => some (.int xs.length)
  | _ => none
def blsD : List D → Option (List Bool)
  | [] => some []
  | .bl b :: r => (blsD r).map (b :: ·)
  | _ => none
def intsD : List D → Option (List Int)
  | [] => some []
  | .int b :: r => (intsD r).map (b :: ·)
  | _ => none
def strsD : List D → Option (List Str)
  | [] => some []
  | .str b :: r => (strsD r).map (b :: ·)
  | _ => none
def gAll : List D → Option D
  | [.lst xs] => (blsD xs).map fun bs => .bl (bs.all id)
  | _ => none
def gAny : List D → Option D
  | [.lst xs] => (blsD xs).map fun bs => .bl (bs.any id)
  | _ => none
def gSum : List D → Option D
  | [.lst xs] => (intsD xs).map fun ns => .int ns.sum
  | _ => none
def gListOf : List D → Option D
  | [d] => (itemsD d).map .lst
  | _ => none
def gTupOf : List D → Option D
  | [.lst xs] => some (.tup xs)
  | [.fro xs] => some (.tup xs)
  | [.tup xs] => some (.tup xs)
  | _ => none
def gStrOf : List D → Option D
  | [.int i] => if i.natAbs.log2 < 1920 then some (.str (toString i)) else none
  | [.str x] => some (.str x)
  | _ => none
def gIntOf : List D → Option D
  | [.int i] => some (.int i)
  | [.bl b] => some (.int (if b then 1 else 0))
  | [.str a] => if a.length ≤ 640 then (PySem.intText? a).map .int else none
  | _ => none
def gMin2 : List D → Option D
  | [.int i, .int j] => some (.int (if j < i then j else i))
  | _ => none
def gMax2 : List D → Option D
  | [.int i, .int j] => some (.int (if j > i then j else i))
  | _ => none
def insS (x : Str) : List Str → List Str
  | [] => [x]
  | y :: r => if ltCps y.cps.toList x.cps.toList then y :: insS x r else x :: y :: r
def sortS : List Str → List Str
  | [] => []
  | x :: r => insS x (sortS r)
def gSortedS : List D → Option D
  | [.lst xs] => if xs.length < 64 then (strsD xs).map fun ss => .lst ((sortS ss).map .str) else none
  | _ => none
def gSplit : D → List D → Option D
  | .str a, [.str b] => if (b.length == 0) = false ∧ a.length + 2 ≤ 16777216 then some (.lst ((Txt.split a b).map .str)) else none
  | _, _ => none
def gJoin : D → List D → Option D
  | .str a, [d] => match d with
    | .lst xs => match strsD xs with
      | some ys => if (ys.map (·.length)).sum + ys.length * a.length ≤ 16777216 then some (.str (Txt.join a ys)) else none
      | none => none
    | _ => none
  | _, _ => none

/-! ### they are what the rules do -/
section
variable {K : PySem.W.Frag} {mg : Str → Option Value} {H : Hp}
theorem RD2.or {r r' : R2} {g : D → D → Option D} (h : ∀ F pi H x y a b d Q, (∀ c, H c = none → hidB F pi c = false) → Rp K mg (hid F pi H) x a → Rp K mg (hid F pi H) y b → g a b = some d →
    (∀ v H', Ext H H' → Rp K mg (hid F pi H') v d → Q v H') → r x y H Q ∨ r' x y H Q) : RD2 K mg (fun x y H Q => r x y H Q ∨ r' x y H Q) g := h
theorem rd_int {C : Int → Int → Prop} {f : Int → Int → V} {g : D → D → Option D} (hg : ∀ a b d, g a b = some d → ∃ i j, a = .int i ∧ b = .int j ∧ C i j ∧ ∀ H, Rp K mg H (f i j) d) : RD2 K mg (rI C f) g := by
  intro F pi H x y a b d Q n rx ry e k
  obtain ⟨i, j, rfl, rfl, c, h⟩ := hg a b d e
  cases rx; cases ry
  exact ⟨i, j, rfl, rfl, c, k _ H (Ext.refl _) (h _)⟩
theorem rd_int0 {f : Int → Int → V} {g : D → D → Option D} (hg : ∀ a b d, g a b = some d → ∃ i j, a = .int i ∧ b = .int j ∧ ∀ H, Rp K mg H (f i j) d) : RD2 K mg (rI0 f) g := by
  intro F pi H x y a b d Q n rx ry e k
  obtain ⟨i, j, rfl, rfl, h⟩ := hg a b d e
  cases rx; cases ry
  exact ⟨i, j, rfl, rfl, k _ H (Ext.refl _) (h _)⟩
theorem rd_sub : RD2 K mg (rI0 fun i j => .int (i - j)) gSub := rd_int0 fun a b d e => by
  unfold gSub at e; split at e
  · cases e; exact ⟨_, _, rfl, rfl, fun H => .int _⟩
  · cases e
theorem rd_fdiv : RD2 K mg (rI CDivN fun i j => .int (i.fdiv j)) gFdiv := rd_int fun a b d e => by
  unfold gFdiv at e; split at e
  · split at e
    · rename_i h; cases e; exact ⟨_, _, rfl, rfl, h, fun H => .int _⟩
    · cases e
  · cases e
theorem rd_mod : RD2 K mg (rI (fun _ j => j ≠ 0) fun i j => .int (i.fmod j)) gMod := rd_int fun a b d e => by
  unfold gMod at e; split at e
  · split at e
    · rename_i h; cases e; exact ⟨_, _, rfl, rfl, h, fun H => .int _⟩
    · cases e
  · cases e
theorem rd_pow : RD2 K mg (rI CPow fun i j => .int (i ^ j.toNat)) gPow := rd_int fun a b d e => by
  unfold gPow at e; split at e
  · split at e
    · rename_i h; cases e; exact ⟨_, _, rfl, rfl, h, fun H => .int _⟩
    · cases e
  · cases e
theorem rd_gt : RD2 K mg (rI0 fun i j => .bl (decide (j < i))) gGt := rd_int0 fun a b d e => by
  unfold gGt at e; split at e
  · cases e; exact ⟨_, _, rfl, rfl, fun H => .bl _⟩
  · cases e
theorem rd_le : RD2 K mg (rI0 fun i j => .bl (decide (i ≤ j))) gLe := rd_int0 fun a b d e => by
  unfold gLe at e; split at e
  · cases e; exact ⟨_, _, rfl, rfl, fun H => .bl _⟩
  · cases e
theorem rd_ge : RD2 K mg (rI0 fun i j => .bl (decide (j ≤ i))) gGe := rd_int0 fun a b d e => by
  unfold gGe at e; split at e
  · cases e; exact ⟨_, _, rfl, rfl, fun H => .bl _⟩
  · cases e
theorem rd_neg : RD1 K mg (rU fun i => .int (-i)) gNeg := by
  intro F pi H x a d Q n rx e k
  unfold gNeg at e; split at e
  · cases e; cases rx; exact ⟨_, rfl, k _ H (Ext.refl _) (.int _)⟩
  · cases e
/-- + -/
abbrev rAddS : R2 := fun x y H Q => ∃ i j, x = .str i ∧ y = .str j ∧ i.length + j.length ≤ sizeLine ∧ Q (.str (i ++ j)) H
abbrev rAddU : R2 := fun x y H Q => rI0 (fun i j => .int (i + j)) x y H Q ∨ (rAddS x y H Q ∨ rCat x y H Q)
theorem op_addU {X : Cx} : OpR X (binaryOp .Add) rAddU := op_add.or (op_add_str.or op_cat)
theorem rd_add : RD2 K mg rAddU gAdd := by
  intro F pi H x y a b d Q n rx ry e k
  unfold gAdd at e
  split at e
  · cases e; cases rx; cases ry; exact .inl ⟨_, _, rfl, rfl, k _ H (Ext.refl _) (.int _)⟩
  · split at e
    · rename_i h; cases e; cases rx; cases ry; exact .inr (.inl ⟨_, _, rfl, rfl, line_of h, k _ H (Ext.refl _) (.str _)⟩)
    · cases e
  · split at e
    · rename_i h; cases e
      cases rx with
      | lst h1 r1 =>
        cases ry with
        | lst h2 r2 =>
          refine .inr (.inr ⟨_, _, _, _, rfl, rfl, hid_le _ _ h1, hid_le _ _ h2, by rw [r1.length, r2.length]; exact line_of h, fun p hp => ?_⟩)
          obtain ⟨n1, n2⟩ := Ext.hidNew (o := .lst _) hp (n p hp)
          exact k _ _ (Ext.new hp) (.lst n1 ((r1.mono n2).app (r2.mono n2)))
    · cases e
  · cases e
/-- * -/
abbrev rMulU : R2 := fun x y H Q => rI CMul (fun i j => .int (i * j)) x y H Q ∨ rRep x y H Q
theorem op_mulU {X : Cx} : OpR X (binaryOp .Mult) rMulU := op_mul.or op_rep
end
section
variable {X : Cx}
/-- < -/
abbrev rLtS : R2 := fun x y H Q => ∃ i j, x = .str i ∧ y = .str j ∧ Q (.bl (decide (i.cps.toList < j.cps.toList))) H
abbrev rLtU : R2 := fun x y H Q => rI0 (fun i j => .bl (decide (i < j))) x y H Q ∨ rLtS x y H Q
theorem op_ltU : OpR X (compareOp .Lt) rLtU := op_lt.or op_lt_str
/-- in -/
def rInD (K : PySem.W.Frag) (neg : Bool) : R2 := fun x y H Q => ∃ d p xs qs, Dp K H x d ∧ y = .ref p ∧ (SqL K H p xs ∨ SqT K H p xs) ∧ DpAll K H xs qs ∧ SeqAt.shaped d = true ∧ PyData.canLayAll0 qs = true ∧
  Q (.bl (if neg then !(qs.any fun q => PyData.eqv q d) else qs.any fun q => PyData.eqv q d)) H
theorem rInD_room {A : Around} {qs : List PyData} {d : PyData} (sd : SeqAt.shaped d = true) (hu : A.units + 65 < cLine) : A.units + 1 + min (PyData.depthAll qs) d.depth < cLine := by
  have h1 := SeqAt.depth_of_shaped sd
  have h2 : min (PyData.depthAll qs) d.depth ≤ d.depth := Nat.min_le_right _ _
  omega
theorem op_inD (hu : X.A.units + 65 < cLine) : OpR X (compareOp .In) (rInD X.K false) := by
  intro pins s σ H x y v u Q I rx ry h
  obtain ⟨d, p, xs, qs, hd, rfl, hq, ha, sd, sq, q⟩ := h
  cases ry
  obtain ⟨as, r1⟩ := Dp.reads I d x v hd rx
  rcases hq with hq | hq
  · obtain ⟨bs, r2⟩ := Dp.reads I (.list qs) (.ref p) (.ref p) (.lst hq ha) rfl
    exact SeqAt.in_list_reads r2 r1 sq (SeqAt.canLay_of_shaped sd) (rInD_room sd hu) ⟨.bl _, H, I, rfl, q⟩
  · obtain ⟨bs, r2⟩ := Dp.reads I (.tuple qs) (.ref p) (.ref p) (.tup hq ha) rfl
    exact SeqAt.in_tuple_reads r2 r1 sq (SeqAt.canLay_of_shaped sd) (rInD_room sd hu) ⟨.bl _, H, I, rfl, q⟩
theorem op_notInD (hu : X.A.units + 65 < cLine) : OpR X (compareOp .NotIn) (rInD X.K true) := by
  intro pins s σ H x y v u Q I rx ry h
  obtain ⟨d, p, xs, qs, hd, rfl, hq, ha, sd, sq, q⟩ := h
  cases ry
  obtain ⟨as, r1⟩ := Dp.reads I d x v hd rx
  rcases hq with hq | hq
  · obtain ⟨bs, r2⟩ := Dp.reads I (.list qs) (.ref p) (.ref p) (.lst hq ha) rfl
    exact SeqAt.notIn_list_reads r2 r1 sq (SeqAt.canLay_of_shaped sd) (rInD_room sd hu) ⟨.bl _, H, I, rfl, q⟩
  · obtain ⟨bs, r2⟩ := Dp.reads I (.tuple qs) (.ref p) (.ref p) (.tup hq ha) rfl
    exact SeqAt.notIn_tuple_reads r2 r1 sq (SeqAt.canLay_of_shaped sd) (rInD_room sd hu) ⟨.bl _, H, I, rfl, q⟩
abbrev rInS : R2 := fun x y H Q => ∃ i j, x = .str i ∧ y = .str j ∧ Q (.bl (!(Builtin.Str.occurrences j i 0 j.length 1).isEmpty)) H
abbrev rNotInS : R2 := fun x y H Q => ∃ i j, x = .str i ∧ y = .str j ∧ Q (.bl (!(!(Builtin.Str.occurrences j i 0 j.length 1).isEmpty))) H
abbrev rInU (K : PySem.W.Frag) : R2 := fun x y H Q => rInS x y H Q ∨ rInD K false x y H Q
abbrev rNotInU (K : PySem.W.Frag) : R2 := fun x y H Q => rNotInS x y H Q ∨ rInD K true x y H Q
theorem op_inU (hu : X.A.units + 65 < cLine) : OpR X (compareOp .In) (rInU X.K) := op_in_str.or (op_inD hu)
theorem op_notInU (hu : X.A.units + 65 < cLine) : OpR X (compareOp .NotIn) (rNotInU X.K) := op_notin_str.or (op_notInD hu)
end
section
variable {K : PySem.W.Frag} {mg : Str → Option Value} {H : Hp}
theorem flat_rep {α : Type} (n : Nat) (xs : List α) : (List.replicate n xs).flatten.length = n * xs.length := by simp
theorem RpL.rep {vs : List V} {ds : List D} (r : RpL K mg H vs ds) : ∀ n : Nat, RpL K mg H (List.replicate n vs).flatten (List.replicate n ds).flatten
  | 0 => .nil
  | n + 1 => by
    rw [List.replicate_succ, List.replicate_succ, List.flatten_cons, List.flatten_cons]
    exact r.app (RpL.rep r n)
theorem rd_lt : RD2 K mg rLtU gLt := by
  intro F pi H x y a b d Q n rx ry e k
  unfold gLt at e
  split at e
  · cases e; cases rx; cases ry; exact .inl ⟨_, _, rfl, rfl, k _ H (Ext.refl _) (.bl _)⟩
  · cases e; cases rx; cases ry; exact .inr ⟨_, _, rfl, rfl, k _ H (Ext.refl _) (.bl _)⟩
  · cases e
theorem rd_eq : RD2 K mg (rEqD K) gEq := by
  intro F pi H x y a b d Q n rx ry e k
  unfold gEq at e
  split at e
  · rename_i p q e1 e2
    split at e
    · rename_i h; cases e
      obtain ⟨h1, h2⟩ := Bool.and_eq_true_iff.mp h
      exact ⟨p, q, (rx.mono hid_le).dp e1, (ry.mono hid_le).dp e2, h1, h2, k _ H (Ext.refl _) (.bl _)⟩
    · cases e
  · cases e
theorem rd_ne : RD2 K mg (rNeD K) gNe := by
  intro F pi H x y a b d Q n rx ry e k
  unfold gNe at e
  split at e
  · rename_i p q e1 e2
    split at e
    · rename_i h; cases e
      obtain ⟨h1, h2⟩ := Bool.and_eq_true_iff.mp h
      exact ⟨p, q, (rx.mono hid_le).dp e1, (ry.mono hid_le).dp e2, h1, h2, k _ H (Ext.refl _) (.bl _)⟩
    · cases e
  · cases e
theorem rp_non {v : V} {d : D} (r : Rp K mg H v d) : decide (v = .non) = isNonD d := by cases r <;> rfl
theorem rd_is : RD2 K mg (fun x y H Q => y = .non ∧ Q (.bl (decide (x = .non))) H) gIs := by
  intro F pi H x y a b d Q n rx ry e k
  unfold gIs at e
  split at e
  · cases e; cases ry
    refine ⟨rfl, ?_⟩
    rw [rp_non rx]
    exact k _ H (Ext.refl _) (.bl _)
  · cases e
theorem rd_isNot : RD2 K mg (fun x y H Q => y = .non ∧ Q (.bl (!decide (x = .non))) H) gIsNot := by
  intro F pi H x y a b d Q n rx ry e k
  unfold gIsNot at e
  split at e
  · cases e; cases ry
    refine ⟨rfl, ?_⟩
    rw [rp_non rx]
    exact k _ H (Ext.refl _) (.bl _)
  · cases e
/-- what has items stands as a list or a tuple -/
theorem rp_items {v : V} {d : D} {ds : List D} (r : Rp K mg H v d) (e : itemsD d = some ds) : ∃ a vs, v = .ref a ∧ (SqL K H a vs ∨ SqT K H a vs) ∧ RpL K mg H vs ds := by
  cases r with
  | tup h r => cases e; exact ⟨_, _, rfl, .inr h, r⟩
  | lst h r => cases e; exact ⟨_, _, rfl, .inl (.inl (.inl h)), r⟩
  | fro h r => cases e; exact ⟨_, _, rfl, .inl h, r⟩
  | _ => cases e
theorem inD_cases {a b : D} {r : Bool} (e : inD a b = some r) : (∃ x y, a = .str x ∧ b = .str y ∧ r = !(Builtin.Str.occurrences y x 0 y.length 1).isEmpty) ∨
    ∃ ys p qs, itemsD b = some ys ∧ toPy a = some p ∧ toPyL ys = some qs ∧ SeqAt.shaped p = true ∧ PyData.canLayAll0 qs = true ∧ r = qs.any fun q => PyData.eqv q p := by
  unfold inD at e
  split at e
  · split at e
    · cases e; exact .inl ⟨_, _, rfl, rfl, rfl⟩
    · cases e
  · split at e
    · rename_i ys e1
      split at e
      · rename_i p qs e2 e3
        split at e
        · rename_i h; cases e
          obtain ⟨h1, h2⟩ := Bool.and_eq_true_iff.mp h
          exact .inr ⟨ys, p, qs, e1, e2, e3, h1, h2, rfl⟩
        · cases e
      · cases e
    · cases e
theorem rd_in : RD2 K mg (rInU K) gIn := by
  intro F pi H x y a b d Q n rx ry e k
  unfold gIn at e
  cases e1 : inD a b with
  | none => rw [e1] at e; cases e
  | some r =>
    rw [e1] at e; cases e
    rcases inD_cases e1 with ⟨z, w, rfl, rfl, rfl⟩ | ⟨ys, p, qs, h1, h2, h3, h4, h5, rfl⟩
    · cases rx; cases ry; exact .inl ⟨_, _, rfl, rfl, k _ H (Ext.refl _) (.bl _)⟩
    · obtain ⟨a', vs, rfl, hs, rl⟩ := rp_items (ry.mono hid_le) h1
      exact .inr ⟨p, a', vs, qs, (rx.mono hid_le).dp h2, rfl, hs, rl.dp h3, h4, h5, k _ H (Ext.refl _) (.bl _)⟩
theorem rd_notIn : RD2 K mg (rNotInU K) gNotIn := by
  intro F pi H x y a b d Q n rx ry e k
  unfold gNotIn at e
  cases e1 : inD a b with
  | none => rw [e1] at e; cases e
  | some r =>
    rw [e1] at e; cases e
    rcases inD_cases e1 with ⟨z, w, rfl, rfl, rfl⟩ | ⟨ys, p, qs, h1, h2, h3, h4, h5, rfl⟩
    · cases rx; cases ry; exact .inl ⟨_, _, rfl, rfl, k _ H (Ext.refl _) (.bl _)⟩
    · obtain ⟨a', vs, rfl, hs, rl⟩ := rp_items (ry.mono hid_le) h1
      exact .inr ⟨p, a', vs, qs, (rx.mono hid_le).dp h2, rfl, hs, rl.dp h3, h4, h5, k _ H (Ext.refl _) (.bl _)⟩
theorem atI_map {xs : List V} {ds : List D} {i : Int} {d : D} (r : RpL K mg H xs ds) (h : atI ds i = some d) : ∃ v, atI xs i = some v ∧ Rp K mg H v d := by
  unfold atI at h ⊢
  rw [r.length]
  cases e : ixN ds.length i with
  | none => rw [e] at h; cases h
  | some j => rw [e] at h; exact r.get h
theorem rd_ix : RD2 K mg (rIx K) gIx := by
  intro F pi H x y a b d Q n rx ry e k
  unfold gIx at e
  split at e
  · cases ry
    cases rx with
    | lst h r =>
      obtain ⟨v, h1, h2⟩ := atI_map r e
      exact .inl ⟨_, _, _, v, rfl, rfl, .inl (.inl (hid_le _ _ h)), h1, k _ H (Ext.refl _) h2⟩
  · cases ry
    cases rx with
    | fro h r =>
      obtain ⟨v, h1, h2⟩ := atI_map r e
      exact .inl ⟨_, _, _, v, rfl, rfl, Ext.sqL hid_le h, h1, k _ H (Ext.refl _) h2⟩
  · cases ry
    cases rx with
    | tup h r =>
      obtain ⟨v, h1, h2⟩ := atI_map r e
      exact .inr (.inl ⟨_, _, _, v, rfl, rfl, Ext.sqT hid_le h, h1, k _ H (Ext.refl _) h2⟩)
  · cases ry; cases rx
    split at e
    · rename_i z i hl
      cases e1 : atI z.cps.toList i with
      | none => rw [e1] at e; cases e
      | some c => rw [e1] at e; cases e; exact .inr (.inr ⟨_, _, c, rfl, rfl, line_of hl, e1, k _ H (Ext.refl _) (.str _)⟩)
    · cases e
  · cases e
theorem rd_mul : RD2 K mg rMulU gMul := by
  intro F pi H x y a b d Q n rx ry e k
  unfold gMul at e
  split at e
  · split at e
    · rename_i h; cases e; cases rx; cases ry
      exact .inl ⟨_, _, rfl, rfl, by simpa [CMul] using h, k _ H (Ext.refl _) (.int _)⟩
    · cases e
  · split at e
    · rename_i h; cases e
      cases ry
      cases rx with
      | lst h1 r1 =>
        refine .inr ⟨_, _, _, rfl, rfl, hid_le _ _ h1, by omega, by omega, by rw [r1.length]; exact line_of h.1, fun p hp => ?_⟩
        obtain ⟨n1, n2⟩ := Ext.hidNew (o := .lst _) hp (n p hp)
        exact k _ _ (Ext.new hp) (.lst n1 ((r1.mono n2).rep _))
    · cases e
  · cases e
/-! built-ins -/
abbrev rLen (K : PySem.W.Frag) : List V → Hp → VK → Prop := fun xs H Q => ∃ x n, xs = [x] ∧ LenV K x H n ∧ Q (.int n) H
theorem rd_len : RDL K mg (rLen K) gLen := by
  intro F pi H xs as d Q n r e k
  unfold gLen at e
  split at e
  · split at e
    · rename_i h; cases e
      cases r with | cons r1 r2 => cases r2; cases r1; exact ⟨_, _, rfl, ⟨line_of h, rfl⟩, k _ H (Ext.refl _) (.int _)⟩
    · cases e
  · cases e
    cases r with
    | cons r1 r2 =>
      cases r2
      cases r1 with | lst h rl => exact ⟨_, _, rfl, .inl ⟨_, .inl (.inl (hid_le _ _ h)), rl.length.symm⟩, k _ H (Ext.refl _) (.int _)⟩
  · cases e
    cases r with
    | cons r1 r2 =>
      cases r2
      cases r1 with | fro h rl => exact ⟨_, _, rfl, .inl ⟨_, Ext.sqL hid_le h, rl.length.symm⟩, k _ H (Ext.refl _) (.int _)⟩
  · cases e
    cases r with
    | cons r1 r2 =>
      cases r2
      cases r1 with | tup h rl => exact ⟨_, _, rfl, .inr ⟨_, Ext.sqT hid_le h, rl.length.symm⟩, k _ H (Ext.refl _) (.int _)⟩
  · cases e
theorem rpl_bls : ∀ {vs : List V} {ds : List D} {bs : List Bool}, RpL K mg H vs ds → blsD ds = some bs → vs = bs.map V.bl
  | _, _, _, .nil, e => by cases e; rfl
  | _, _, bs, .cons (d := d) (ds := ds) a r, e => by
    cases a with
    | bl b =>
      have e' : (blsD ds).map (b :: ·) = some bs := e
      cases q : blsD ds with
      | none => rw [q] at e'; cases e'
      | some l => rw [q] at e'; cases e'; rw [rpl_bls r q]; rfl
    | _ => cases e
theorem rpl_ints : ∀ {vs : List V} {ds : List D} {bs : List Int}, RpL K mg H vs ds → intsD ds = some bs → vs = bs.map V.int
  | _, _, _, .nil, e => by cases e; rfl
  | _, _, bs, .cons (d := d) (ds := ds) a r, e => by
    cases a with
    | int b =>
      have e' : (intsD ds).map (b :: ·) = some bs := e
      cases q : intsD ds with
      | none => rw [q] at e'; cases e'
      | some l => rw [q] at e'; cases e'; rw [rpl_ints r q]; rfl
    | _ => cases e
theorem rpl_strs : ∀ {vs : List V} {ds : List D} {bs : List Str}, RpL K mg H vs ds → strsD ds = some bs → vs = bs.map V.str
  | _, _, _, .nil, e => by cases e; rfl
  | _, _, bs, .cons (d := d) (ds := ds) a r, e => by
    cases a with
    | str b =>
      have e' : (strsD ds).map (b :: ·) = some bs := e
      cases q : strsD ds with
      | none => rw [q] at e'; cases e'
      | some l => rw [q] at e'; cases e'; rw [rpl_strs r q]; rfl
    | _ => cases e
theorem strs_rpl : ∀ bs : List Str, RpL K mg H (bs.map V.str) (bs.map D.str)
  | [] => .nil
  | b :: r => .cons (.str b) (strs_rpl r)
theorem ints_rpl : ∀ bs : List Int, RpL K mg H (bs.map V.int) (bs.map D.int)
  | [] => .nil
  | b :: r => .cons (.int b) (ints_rpl r)
theorem strsD_map : ∀ bs : List Str, strsD (bs.map D.str) = some bs
  | [] => rfl
  | b :: r => by
    show (strsD (r.map D.str)).map (b :: ·) = _
    rw [strsD_map r]; rfl
theorem intsD_map : ∀ bs : List Int, intsD (bs.map D.int) = some bs
  | [] => rfl
  | b :: r => by
    show (intsD (r.map D.int)).map (b :: ·) = _
    rw [intsD_map r]; rfl
theorem blsD_map : ∀ bs : List Bool, blsD (bs.map D.bl) = some bs
  | [] => rfl
  | b :: r => by
    show (blsD (r.map D.bl)).map (b :: ·) = _
    rw [blsD_map r]; rfl
theorem rd_all : RDL K mg (rAll K) gAll := by
  intro F pi H xs as d Q n r e k
  unfold gAll at e
  split at e
  · rename_i ds
    cases q : blsD ds with
    | none => rw [q] at e; cases e
    | some bs =>
      rw [q] at e; cases e
      cases r with
      | cons r1 r2 =>
        cases r2
        cases r1 with | lst h rl => exact ⟨_, bs, rfl, by rw [← rpl_bls rl q]; exact .inl (.inl (hid_le _ _ h)), k _ H (Ext.refl _) (.bl _)⟩
  · cases e
theorem rd_any : RDL K mg (rAny K) gAny := by
  intro F pi H xs as d Q n r e k
  unfold gAny at e
  split at e
  · rename_i ds
    cases q : blsD ds with
    | none => rw [q] at e; cases e
    | some bs =>
      rw [q] at e; cases e
      cases r with
      | cons r1 r2 =>
        cases r2
        cases r1 with | lst h rl => exact ⟨_, bs, rfl, by rw [← rpl_bls rl q]; exact .inl (.inl (hid_le _ _ h)), k _ H (Ext.refl _) (.bl _)⟩
  · cases e
theorem rd_sum : RDL K mg (rSum K) gSum := by
  intro F pi H xs as d Q n r e k
  unfold gSum at e
  split at e
  · rename_i ds
    cases q : intsD ds with
    | none => rw [q] at e; cases e
    | some bs =>
      rw [q] at e; cases e
      cases r with
      | cons r1 r2 =>
        cases r2
        cases r1 with | lst h rl => exact ⟨_, bs, rfl, by rw [← rpl_ints rl q]; exact .inl (.inl (hid_le _ _ h)), k _ H (Ext.refl _) (.int _)⟩
  · cases e
abbrev rListOf (K : PySem.W.Frag) : List V → Hp → VK → Prop := fun xs H Q => ∃ p ys, xs = [.ref p] ∧ (SqL K H p ys ∨ SqT K H p ys) ∧ ∀ l, H l = none → Q (.ref l) (upd H l (.lst ys))
theorem rd_list : RDL K mg (rListOf K) gListOf := by
  intro F pi H xs as d Q n r e k
  unfold gListOf at e
  split at e
  · rename_i d'
    cases q : itemsD d' with
    | none => rw [q] at e; cases e
    | some ds =>
      rw [q] at e; cases e
      cases r with
      | cons r1 r2 =>
        cases r2
        obtain ⟨a, vs, rfl, hs, rl⟩ := rp_items r1 q
        refine ⟨a, vs, rfl, hs.imp (Ext.sqL hid_le) (Ext.sqT hid_le), fun l hl => ?_⟩
        obtain ⟨n1, n2⟩ := Ext.hidNew (o := .lst vs) hl (n l hl)
        exact k _ _ (Ext.new hl) (.lst n1 (rl.mono n2))
  · cases e
abbrev rTupOf (K : PySem.W.Frag) : List V → Hp → VK → Prop := fun xs H Q => ∃ p ys, xs = [.ref p] ∧ ((SqL K H p ys ∧ ∀ l, H l = none → Q (.ref l) (upd H l (.tup ys))) ∨ (SqT K H p ys ∧ Q (.ref p) H))
theorem rd_tuple : RDL K mg (rTupOf K) gTupOf := by
  intro F pi H xs as d Q n r e k
  have go : ∀ {a : Addr} {vs : List V} {ds : List D}, SqL K (hid F pi H) a vs → RpL K mg (hid F pi H) vs ds → d = .tup ds → rTupOf K [.ref a] H Q := fun {a vs ds} h rl e => by
    subst e
    refine ⟨a, vs, rfl, .inl ⟨Ext.sqL hid_le h, fun l hl => ?_⟩⟩
    obtain ⟨n1, n2⟩ := Ext.hidNew (o := .tup vs) hl (n l hl)
    exact k _ _ (Ext.new hl) (.tup (.inl (.inl n1)) (rl.mono n2))
  unfold gTupOf at e
  split at e
  · cases e
    cases r with | cons r1 r2 => cases r2; cases r1 with | lst h rl => exact go (.inl (.inl h)) rl rfl
  · cases e
    cases r with | cons r1 r2 => cases r2; cases r1 with | fro h rl => exact go h rl rfl
  · cases e
    cases r with | cons r1 r2 => cases r2; cases r1 with | tup h rl => exact ⟨_, _, rfl, .inr ⟨Ext.sqT hid_le h, k _ H (Ext.refl _) (.tup h rl)⟩⟩
  · cases e
abbrev rStrOf : List V → Hp → VK → Prop := fun xs H Q => (∃ i, xs = [.int i] ∧ i.natAbs.log2 < 1920 ∧ Q (.str (toString i)) H) ∨ ∃ a, xs = [.str a] ∧ Q (.str a) H
theorem call_strU {X : Cx} : CallR X (.type "str") rStrOf := call_str_int.or SkE.call_str_str
theorem rd_str : RDL K mg rStrOf gStrOf := by
  intro F pi H xs as d Q n r e k
  unfold gStrOf at e
  split at e
  · split at e
    · rename_i h; cases e
      cases r with | cons r1 r2 => cases r2; cases r1; exact .inl ⟨_, rfl, h, k _ H (Ext.refl _) (.str _)⟩
    · cases e
  · cases e
    cases r with | cons r1 r2 => cases r2; cases r1; exact .inr ⟨_, rfl, k _ H (Ext.refl _) (.str _)⟩
  · cases e
abbrev rIntOf : List V → Hp → VK → Prop := fun xs H Q => ((∃ i, xs = [.int i] ∧ Q (.int i) H) ∨ ∃ k, xs = [.bl k] ∧ Q (.int (if k then 1 else 0)) H) ∨ ∃ a n, xs = [.str a] ∧ PySem.intText? a = some n ∧ a.length ≤ 640 ∧ Q (.int n) H
theorem call_intU {X : Cx} : CallR X (.type "int") rIntOf := call_int1.or call_int_str
theorem rd_intOf : RDL K mg rIntOf gIntOf := by
  intro F pi H xs as d Q n r e k
  unfold gIntOf at e
  split at e
  · cases e
    cases r with | cons r1 r2 => cases r2; cases r1; exact .inl (.inl ⟨_, rfl, k _ H (Ext.refl _) (.int _)⟩)
  · cases e
    cases r with | cons r1 r2 => cases r2; cases r1; exact .inl (.inr ⟨_, rfl, k _ H (Ext.refl _) (.int _)⟩)
  · split at e
    · rename_i a h
      cases q : PySem.intText? a with
      | none => rw [q] at e; cases e
      | some i =>
        rw [q] at e; cases e
        cases r with | cons r1 r2 => cases r2; cases r1; exact .inr ⟨_, _, rfl, q, h, k _ H (Ext.refl _) (.int _)⟩
    · cases e
  · cases e
abbrev rMin2 : List V → Hp → VK → Prop := fun xs H Q => ∃ i j, xs = [.int i, .int j] ∧ Q (.int (if j < i then j else i)) H
theorem rd_min2 : RDL K mg rMin2 gMin2 := by
  intro F pi H xs as d Q n r e k
  unfold gMin2 at e
  split at e
  · cases e
    cases r with | cons r1 r2 => cases r2 with | cons r3 r4 => cases r4; cases r1; cases r3; exact ⟨_, _, rfl, k _ H (Ext.refl _) (.int _)⟩
  · cases e
abbrev rMax2 : List V → Hp → VK → Prop := fun xs H Q => ∃ i j, xs = [.int i, .int j] ∧ Q (.int (if j > i then j else i)) H
theorem rd_max2 : RDL K mg rMax2 gMax2 := by
  intro F pi H xs as d Q n r e k
  unfold gMax2 at e
  split at e
  · cases e
    cases r with | cons r1 r2 => cases r2 with | cons r3 r4 => cases r4; cases r1; cases r3; exact ⟨_, _, rfl, k _ H (Ext.refl _) (.int _)⟩
  · cases e
end
/-! sorting texts -/
theorem lt_irr : ∀ l : List Nat, ltCps l l = false
  | [] => rfl
  | a :: r => by simp [ltCps, lt_irr r]
theorem lt_tri : ∀ l m : List Nat, ltCps l m = false → ltCps m l = false → l = m
  | [], [], _, _ => rfl
  | [], _ :: _, h, _ => by simp [ltCps] at h
  | _ :: _, [], _, h => by simp [ltCps] at h
  | a :: r, b :: t, h, h' => by
    simp only [ltCps, Bool.or_eq_false_iff, Bool.and_eq_false_iff, decide_eq_false_iff_not] at h h'
    have e : a = b := by omega
    subst e
    have h1 : ltCps r t = false := by rcases h.2 with q | q; simp at q; exact q
    have h2 : ltCps t r = false := by rcases h'.2 with q | q; simp at q; exact q
    rw [lt_tri r t h1 h2]
theorem lt_trans' : ∀ l m n : List Nat, ltCps l m = true → ltCps m n = true → ltCps l n = true
  | _, [], [], _, h => by simp [ltCps] at h
  | [], [], _ :: _, h, _ => by simp [ltCps] at h
  | _ :: _, [], _ :: _, h, _ => by simp [ltCps] at h
  | _, _ :: _, [], _, h => by simp [ltCps] at h
  | [], _ :: _, _ :: _, _, _ => rfl
  | a :: r, b :: t, c :: u, h, h' => by
    simp only [ltCps, Bool.or_eq_true, Bool.and_eq_true, decide_eq_true_eq, beq_iff_eq] at h h' ⊢
    rcases h with h | ⟨e, h⟩ <;> rcases h' with h' | ⟨e', h'⟩
    · left; omega
    · left; omega
    · left; omega
    · right; exact ⟨by omega, lt_trans' r t u h h'⟩
/-- a is not behind b -/
abbrev leS (a b : Str) : Prop := ltCps b.cps.toList a.cps.toList = false
theorem leS_trans {a b c : Str} (h : leS a b) (h' : leS b c) : leS a c := by
  unfold leS at *
  cases e : ltCps c.cps.toList a.cps.toList with
  | false => rfl
  | true =>
    cases e2 : ltCps a.cps.toList b.cps.toList with
    | true => rw [lt_trans' _ _ _ e e2] at h'; cases h'
    | false =>
      have q := lt_tri _ _ e2 h
      rw [q] at e
      rw [e] at h'; cases h'
theorem leS_anti {a b : Str} (h : leS a b) (h' : leS b a) : a = b := TL.ext_tl (lt_tri _ _ h' h)
theorem leS_total (a b : Str) : leS a b ∨ leS b a := by
  unfold leS
  cases e : ltCps b.cps.toList a.cps.toList with
  | false => exact .inl rfl
  | true =>
    right
    cases e2 : ltCps a.cps.toList b.cps.toList with
    | false => rfl
    | true => have := lt_trans' _ _ _ e e2; rw [lt_irr] at this; cases this
theorem insS_perm (x : Str) : ∀ l : List Str, (insS x l).Perm (x :: l)
  | [] => .refl _
  | y :: r => by
    unfold insS
    split
    · exact ((insS_perm x r).cons y).trans (.swap x y r)
    · exact .refl _
theorem sortS_perm : ∀ l : List Str, (sortS l).Perm l
  | [] => .refl _
  | x :: r => (insS_perm x (sortS r)).trans ((sortS_perm r).cons x)
theorem insS_sorted (x : Str) : ∀ l : List Str, l.Pairwise leS → (insS x l).Pairwise leS
  | [], _ => by unfold insS; exact List.pairwise_singleton _ _
  | y :: r, h => by
    unfold insS
    have h1 := List.pairwise_cons.mp h
    split
    · rename_i c
      refine List.pairwise_cons.mpr ⟨fun z hz => ?_, insS_sorted x r h1.2⟩
      have hz' := (insS_perm x r).mem_iff.mp hz
      rcases List.mem_cons.mp hz' with rfl | hz'
      · unfold leS
        cases e : ltCps z.cps.toList y.cps.toList with
        | false => rfl
        | true => have := lt_trans' _ _ _ e c; rw [lt_irr] at this; cases this
      · exact h1.1 z hz'
    · rename_i c
      refine List.pairwise_cons.mpr ⟨fun z hz => ?_, h⟩
      have hxy : leS x y := by unfold leS; simpa using c
      rcases List.mem_cons.mp hz with rfl | hz'
      · exact hxy
      · exact leS_trans hxy (h1.1 z hz')
theorem sortS_sorted : ∀ l : List Str, (sortS l).Pairwise leS
  | [] => List.Pairwise.nil
  | x :: r => insS_sorted x _ (sortS_sorted r)
theorem sortedS_pw : ∀ l : List Str, PyProof.Rows.sortedS l = true → l.Pairwise leS
  | [], _ => List.Pairwise.nil
  | [x], _ => List.pairwise_singleton _ _
  | x :: y :: r, h => by
    have h' : (!ltCps y.cps.toList x.cps.toList && PyProof.Rows.risingS y r) = true := h
    obtain ⟨h1, h2⟩ := Bool.and_eq_true_iff.mp h'
    have ih := sortedS_pw (y :: r) h2
    have hxy : leS x y := by unfold leS; simpa using h1
    refine List.pairwise_cons.mpr ⟨fun z hz => ?_, ih⟩
    rcases List.mem_cons.mp hz with rfl | hz'
    · exact hxy
    · exact leS_trans hxy ((List.pairwise_cons.mp ih).1 z hz')
theorem sorted_unique : ∀ {l m : List Str}, l.Perm m → l.Pairwise leS → m.Pairwise leS → l = m
  | [], m, p, _, _ => by rw [List.Perm.eq_nil p.symm]
  | x :: r, [], p, _, _ => by have := p.length_eq; simp at this
  | x :: r, y :: t, p, h, h' => by
    have h1 := List.pairwise_cons.mp h
    have h2 := List.pairwise_cons.mp h'
    have hx : x ∈ y :: t := p.mem_iff.mp List.mem_cons_self
    have hy : y ∈ x :: r := p.mem_iff.mpr List.mem_cons_self
    have e : x = y := by
      rcases List.mem_cons.mp hx with e | hx
      · exact e
      · rcases List.mem_cons.mp hy with e | hy
        · exact e.symm
        · exact leS_anti (h1.1 y hy) (h2.1 x hx)
    subst e
    rw [sorted_unique ((List.perm_cons x).mp p) h1.2 h2.2]
theorem sortS_of {ys xs : List Str} (p : ys.Perm xs) (h : PyProof.Rows.sortedS ys = true) : ys = sortS xs :=
  sorted_unique (p.trans (sortS_perm xs).symm) (sortedS_pw ys h) (sortS_sorted xs)
section
variable {K : PySem.W.Frag} {mg : Str → Option Value} {H : Hp}
theorem rd_sortedS : RDL K mg (rSortedS K) gSortedS := by
  intro F pi H xs as d Q n r e k
  unfold gSortedS at e
  split at e
  · rename_i ds
    split at e
    · rename_i hl
      cases q : strsD ds with
      | none => rw [q] at e; cases e
      | some ss =>
        rw [q] at e; cases e
        cases r with
        | cons r1 r2 =>
          cases r2
          cases r1 with
          | lst h rl =>
            have ev := rpl_strs rl q
            have el : ss.length < 64 := by have := congrArg List.length ev; rw [List.length_map, rl.length] at this; omega
            refine ⟨_, ss, rfl, by rw [← ev]; exact .inl (.inl (hid_le _ _ h)), el, fun ys p pm st hp => ?_⟩
            rw [sortS_of pm st]
            obtain ⟨n1, n2⟩ := Ext.hidNew (o := .lst ((sortS ss).map V.str)) hp (n p hp)
            exact k _ _ (Ext.new hp) (.lst n1 (strs_rpl _))
    · cases e
  · cases e
/-! methods of texts -/
abbrev rSplit : V → List V → Hp → VK → Prop := fun x xs H Q => ∃ a b, x = .str a ∧ xs = [.str b] ∧ (b.length == 0) = false ∧ a.length + 2 ≤ sizeLine ∧ rNewStrs (Txt.split a b) H Q
theorem rd_split : RDM K mg rSplit gSplit := by
  intro F pi H x xs a as d Q n rx r e k
  unfold gSplit at e
  split at e
  · split at e
    · rename_i h; cases e
      cases rx
      cases r with
      | cons r1 r2 =>
        cases r2; cases r1
        refine ⟨_, _, rfl, rfl, h.1, line_of h.2, fun p hp => ?_⟩
        obtain ⟨n1, n2⟩ := Ext.hidNew (o := .lst _) hp (n p hp)
        exact k _ _ (Ext.new hp) (.lst n1 (strs_rpl _))
    · cases e
  · cases e
abbrev rJoin (K : PySem.W.Frag) : V → List V → Hp → VK → Prop := fun x xs H Q => ∃ a p, ∃ ys : List Str, x = .str a ∧ xs = [.ref p] ∧ (SqL K H p (ys.map V.str) ∨ SqT K H p (ys.map V.str)) ∧
    (ys.map (·.length)).sum + ys.length * a.length ≤ 16777216 ∧ Q (.str (Txt.join a ys)) H
theorem rd_join : RDM K mg (rJoin K) gJoin := by
  intro F pi H x xs a as d Q n rx r e k
  unfold gJoin at e
  split at e
  · split at e
    · rename_i ds
      cases q : strsD ds with
      | none => rw [q] at e; cases e
      | some ys =>
        rw [q] at e
        simp only at e
        split at e
        · rename_i h; cases e
          cases rx
          cases r with
          | cons r1 r2 =>
            cases r2
            cases r1 with
            | lst h1 rl => exact ⟨_, _, ys, rfl, rfl, .inl (by rw [← rpl_strs rl q]; exact .inl (.inl (hid_le _ _ h1))), h, k _ H (Ext.refl _) (.str _)⟩
        · cases e
    · cases e
  · cases e
end
end DL

set_option maxHeartbeats 4000000
/-! DLd: what a def does to data (a mirror), what its callers may use. -/
namespace DL
open PySem PySem.Spec L2

/-- a mirror: the parameters as slots, the own objects' contents -/
abbrev Mir := FE
/-- the promise: from data to data -/
def SpM (K : PySem.W.Frag) (mg : Str → Option Value) (m : Mir) : Sp := fun vs H Q E =>
  ∃ (B : Hp) (F : Addr → Bool) (pi : List (Option Addr)) (rho : List Sl) (mu : List D), Sat K mg B F pi rho mu (vs.map some) H ∧
    ContE K mg (fun cls dd _ H' => E cls dd H') B F pi rho (vs.map some) H Q (m rho mu)

/-! ### a call's own arguments -/
def ownKs : List Sl → List Nat
  | [] => []
  | .own k :: r => k :: ownKs r
  | _ :: r => ownKs r
def renum : Nat → List Sl → List Sl
  | _, [] => []
  | n, .own _ :: r => .own n :: renum (n + 1) r
  | n, s :: r => s :: renum n r
def putBack : List Nat → List D → List D → List D
  | k :: ks, d :: ds, mu => putBack ks ds (mu.set k d)
  | _, _, mu => mu
def callM (m : Mir) (as : List Sl) (mu : List D) : Rs D :=
  if (ownKs as).Nodup then (match m (renum 0 as) ((ownKs as).map fun k => mu.getD k .non) with
    | .ok d mu' => .ok d (putBack (ownKs as) mu' mu)
    | .err x mu' => .err x (putBack (ownKs as) mu' mu)
    | .stuck => .stuck) else .stuck
theorem putBack_length : ∀ (ks : List Nat) (ds mu : List D), (putBack ks ds mu).length = mu.length
  | [], _, _ => rfl
  | _ :: _, [], _ => rfl
  | k :: ks, d :: ds, mu => by
    show (putBack ks ds (mu.set k d)).length = _
    rw [putBack_length ks ds, List.length_set]
theorem putBack_out {j : Nat} : ∀ (ks : List Nat) (ds mu : List D), j ∉ ks → (putBack ks ds mu)[j]? = mu[j]?
  | [], _, _, _ => rfl
  | _ :: _, [], _, _ => rfl
  | k :: ks, d :: ds, mu, h => by
    show (putBack ks ds (mu.set k d))[j]? = _
    have h' := List.not_mem_of_not_mem_cons h
    have hne : k ≠ j := fun e => h (by rw [e]; exact List.mem_cons_self)
    rw [putBack_out ks ds _ h', List.getElem?_set_ne hne]
theorem putBack_in : ∀ (ks : List Nat) (ds mu : List D) (i k : Nat) (d : D), ks.Nodup → (∀ k ∈ ks, k < mu.length) → ks[i]? = some k → ds[i]? = some d → (putBack ks ds mu)[k]? = some d
  | [], _, _, i, k, d, _, _, h, _ => by simp at h
  | _ :: _, [], _, i, k, d, _, _, _, h => by simp at h
  | q :: ks, e :: ds, mu, 0, k, d, nd, hl, h1, h2 => by
    simp at h1 h2; subst h1; subst h2
    show (putBack ks ds (mu.set q e))[q]? = _
    rw [putBack_out ks ds _ (List.nodup_cons.mp nd).1, List.getElem?_set_self (hl q List.mem_cons_self)]
  | q :: ks, e :: ds, mu, i + 1, k, d, nd, hl, h1, h2 => by
    show (putBack ks ds (mu.set q e))[k]? = _
    exact putBack_in ks ds _ i k d (List.nodup_cons.mp nd).2 (fun k hk => by rw [List.length_set]; exact hl k (List.mem_cons_of_mem _ hk)) (by simpa using h1) (by simpa using h2)
section
variable {K : PySem.W.Frag} {mg : Str → Option Value} {B : Hp} {F : Addr → Bool} {pi : List (Option Addr)} {rho : List Sl} {mu : List D} {σ : L2.St} {H H' : Hp}
/-- an argument that is handed over: data; an own object -/
inductive ArgR (K : PySem.W.Frag) (mg : Str → Option Value) (F : Addr → Bool) (pi : List (Option Addr)) (H : Hp) : V → Sl → Prop
  | dat {v : V} {d : D} : Rp K mg (hid F pi H) v d → ArgR K mg F pi H v (.dat d)
  | own {a : Addr} {k : Nat} : pi[k]? = some (some a) → ArgR K mg F pi H (.ref a) (.own k)
inductive ArgsR (K : PySem.W.Frag) (mg : Str → Option Value) (F : Addr → Bool) (pi : List (Option Addr)) (H : Hp) : List V → List Sl → Prop
  | nil : ArgsR K mg F pi H [] []
  | cons {v : V} {s : Sl} {vs : List V} {ss : List Sl} : ArgR K mg F pi H v s → ArgsR K mg F pi H vs ss → ArgsR K mg F pi H (v :: vs) (s :: ss)
theorem ArgR.mono {v : V} {s : Sl} (e : Ext (hid F pi H) (hid F pi H')) (h : ArgR K mg F pi H v s) : ArgR K mg F pi H' v s := by
  cases h with
  | dat r => exact .dat (r.mono e)
  | own h => exact .own h
theorem ArgsR.mono (e : Ext (hid F pi H) (hid F pi H')) : ∀ {vs : List V} {ss : List Sl}, ArgsR K mg F pi H vs ss → ArgsR K mg F pi H' vs ss
  | _, _, .nil => .nil
  | _, _, .cons a r => .cons (a.mono e) (ArgsR.mono e r)
theorem ArgsR.app : ∀ {vs ws : List V} {ss ts : List Sl}, ArgsR K mg F pi H vs ss → ArgsR K mg F pi H ws ts → ArgsR K mg F pi H (vs ++ ws) (ss ++ ts)
  | _, _, _, _, .nil, s => s
  | _, _, _, _, .cons a r, s => .cons a (ArgsR.app r s)
theorem ArgsR.length : ∀ {vs : List V} {ss : List Sl}, ArgsR K mg F pi H vs ss → vs.length = ss.length
  | _, _, .nil => rfl
  | _, _, .cons _ r => congrArg (· + 1) r.length
theorem ArgsR.ofL : ∀ {vs : List V} {ds : List D}, RpL K mg (hid F pi H) vs ds → ArgsR K mg F pi H vs (ds.map .dat)
  | _, _, .nil => .nil
  | _, _, .cons a r => .cons (.dat a) (ArgsR.ofL r)
/-- the own addresses handed over, in order -/
theorem owns_at : ∀ {vs : List V} {as : List Sl}, ArgsR K mg F pi H vs as → ∀ k ∈ ownKs as, ∃ a, pi[k]? = some (some a)
  | _, _, .nil, k, h => by cases h
  | _, _, .cons (.dat _) r, k, h => owns_at r k h
  | _, _, .cons (.own e) r, k, h => by
    rcases List.mem_cons.mp h with q | h
    · subst q; exact ⟨_, e⟩
    · exact owns_at r k h
theorem renum_length : ∀ (n : Nat) (as : List Sl), (renum n as).length = as.length
  | _, [] => rfl
  | n, .own _ :: r => congrArg (· + 1) (renum_length (n + 1) r)
  | n, .no :: r => congrArg (· + 1) (renum_length n r)
  | n, .dat _ :: r => congrArg (· + 1) (renum_length n r)
theorem renum_dat : ∀ (n : Nat) {vs : List V} {as : List Sl}, ArgsR K mg F pi H vs as → ∀ (i : Nat) (d : D), (renum n as)[i]? = some (.dat d) → ∃ v, vs[i]? = some v ∧ Rp K mg (hid F pi H) v d
  | _, _, _, .nil, i, d, h => by simp [renum] at h
  | n, _, _, .cons (.dat a) r, 0, d, h => by
    simp [renum] at h; subst h; exact ⟨_, rfl, a⟩
  | n, _, _, .cons (.dat a) r, i + 1, d, h => by
    obtain ⟨v, h1, h2⟩ := renum_dat n r i d (by simpa [renum] using h)
    exact ⟨v, by simpa using h1, h2⟩
  | n, _, _, .cons (.own e) r, 0, d, h => by simp [renum] at h
  | n, _, _, .cons (.own e) r, i + 1, d, h => by
    obtain ⟨v, h1, h2⟩ := renum_dat (n + 1) r i d (by simpa [renum] using h)
    exact ⟨v, by simpa using h1, h2⟩
theorem renum_own : ∀ (n : Nat) {vs : List V} {as : List Sl}, ArgsR K mg F pi H vs as → ∀ (i j : Nat), (renum n as)[i]? = some (.own j) → n ≤ j ∧ ∃ k a, (ownKs as)[j - n]? = some k ∧ pi[k]? = some (some a) ∧ vs[i]? = some (.ref a)
  | _, _, _, .nil, i, j, h => by simp [renum] at h
  | n, _, _, .cons (.dat a) r, 0, j, h => by simp [renum] at h
  | n, _, _, .cons (.dat a) r, i + 1, j, h => by
    obtain ⟨h0, k, b, h1, h2, h3⟩ := renum_own n r i j (by simpa [renum] using h)
    exact ⟨h0, k, b, h1, h2, by simpa using h3⟩
  | n, _, _, .cons (.own e) r, 0, j, h => by
    simp [renum] at h; subst h
    exact ⟨Nat.le_refl _, _, _, by simp [ownKs], e, rfl⟩
  | n, _, _, .cons (.own e) r, i + 1, j, h => by
    obtain ⟨h0, k, b, h1, h2, h3⟩ := renum_own (n + 1) r i j (by simpa [renum] using h)
    refine ⟨by omega, k, b, ?_, h2, by simpa using h3⟩
    have e2 : j - n = (j - (n + 1)) + 1 := by omega
    rw [e2]
    simpa [ownKs] using h1
/-- the callee's state, from the caller's -/
theorem call_sat (S : Sat K mg B F pi rho mu σ H) {vs : List V} {as : List Sl} (r : ArgsR K mg F pi H vs as) (nd : (ownKs as).Nodup) :
    ∃ (B' : Hp) (F' : Addr → Bool) (pi' : List (Option Addr)), (∀ G : Hp, hid F' pi' G = hid F pi G) ∧
      Sat K mg B' F' pi' (renum 0 as) ((ownKs as).map fun k => mu.getD k .non) (vs.map some) H ∧
      ∀ (mu' : List D) (H' : Hp), Sat K mg B' F' pi' (renum 0 as) mu' (vs.map some) H' → Ext (hid F pi H) (hid F pi H') → Sat K mg B F pi rho (putBack (ownKs as) mu' mu) σ H' := by
  have oa := owns_at r
  let pi' : List (Option Addr) := (ownKs as).map fun k => pi.getD k none
  let F' : Addr → Bool := fun a => F a || (pi.contains (some a) && !pi'.contains (some a))
  let B' : Hp := fun a => if (pi.contains (some a) && !pi'.contains (some a)) = true then H a else B a
  have getD : ∀ (k : Nat) (a : Addr), pi[k]? = some (some a) → pi.getD k none = some a := fun k a e => by rw [List.getD_eq_getElem?_getD, e]; rfl
  have pi'_at : ∀ (j : Nat) (a : Addr), pi'[j]? = some (some a) → ∃ k, (ownKs as)[j]? = some k ∧ pi[k]? = some (some a) := fun j a e => by
    have e : ((ownKs as).map fun k => pi.getD k none)[j]? = some (some a) := e
    rw [List.getElem?_map] at e
    cases q : (ownKs as)[j]? with
    | none => rw [q] at e; cases e
    | some k =>
      rw [q] at e
      obtain ⟨b, hb⟩ := oa k (List.mem_of_getElem? q)
      have e3 : some (pi.getD k none) = some (some a) := e
      rw [getD k b hb] at e3
      cases e3
      exact ⟨k, rfl, hb⟩
  have pi'_sub : ∀ a : Addr, pi'.contains (some a) = true → pi.contains (some a) = true := fun a h => by
    obtain ⟨j, hj⟩ := mem_pi.mp h
    obtain ⟨k, _, hk⟩ := pi'_at j a hj
    exact mem_pi.mpr ⟨k, hk⟩
  have hb : ∀ a : Addr, hidB F' pi' a = hidB F pi a := fun a => by
    show ((F a || (pi.contains (some a) && !pi'.contains (some a))) || pi'.contains (some a)) = (F a || pi.contains (some a))
    cases h1 : pi'.contains (some a) with
    | true => rw [pi'_sub a h1]; simp
    | false => simp
  have he : ∀ G : Hp, hid F' pi' G = hid F pi G := fun G => by
    funext a; unfold hid; rw [hb a]
  have ownF : ∀ a : Addr, pi.contains (some a) = true → B a = none ∧ F a = false ∧ ∃ o, H a = some o := fun a h => by
    obtain ⟨k, hk⟩ := mem_pi.mp h
    have hl : k < mu.length := by rw [← S.len]; exact (List.getElem?_eq_some_iff.mp hk).1
    obtain ⟨h1, h2, o, h3, _⟩ := S.own k a mu[k] hk (by simp [hl])
    exact ⟨h1, h2, o, h3⟩
  refine ⟨B', F', pi', he, ⟨by simp [pi'], by rw [renum_length, List.length_map, r.length], ?_, ?_, ?_, ?_, ?_, ?_, ?_⟩, ?_⟩
  · -- inj
    intro i j a h1 h2
    obtain ⟨k1, e1, p1⟩ := pi'_at i a h1
    obtain ⟨k2, e2, p2⟩ := pi'_at j a h2
    have ek := S.inj k1 k2 a p1 p2
    subst ek
    obtain ⟨l1, g1⟩ := List.getElem?_eq_some_iff.mp e1
    obtain ⟨l2, g2⟩ := List.getElem?_eq_some_iff.mp e2
    exact (List.getElem_inj nd).mp (g1.trans g2.symm)
  · -- own
    intro j a d h1 h2
    obtain ⟨k, e1, p1⟩ := pi'_at j a h1
    rw [List.getElem?_map, e1] at h2
    have hl : k < mu.length := by rw [← S.len]; exact (List.getElem?_eq_some_iff.mp p1).1
    have ed : mu.getD k .non = mu[k] := by rw [List.getD_eq_getElem?_getD, List.getElem?_eq_getElem hl]; rfl
    have h2 : some (mu.getD k .non) = some d := h2
    rw [ed] at h2
    obtain ⟨q1, q2, o, q3, q4⟩ := S.own k a mu[k] p1 (by simp [hl])
    have hin : pi'.contains (some a) = true := mem_pi.mpr ⟨j, h1⟩
    refine ⟨?_, ?_, o, q3, by rw [he H]; cases h2; exact q4⟩
    · show (if (pi.contains (some a) && !pi'.contains (some a)) = true then H a else B a) = none
      rw [hin]; simp [q1]
    · show (F a || (pi.contains (some a) && !pi'.contains (some a))) = false
      rw [hin, q2]; simp
  · -- frz
    intro j h1
    have h1 : ((ownKs as).map fun k => pi.getD k none)[j]? = some none := h1
    rw [List.getElem?_map] at h1
    cases q : (ownKs as)[j]? with
    | none => rw [q] at h1; cases h1
    | some k =>
      rw [q] at h1
      obtain ⟨b, hb'⟩ := oa k (List.mem_of_getElem? q)
      have e3 : some (pi.getD k none) = some none := h1
      rw [getD k b hb'] at e3
      cases e3
  · -- forn
    intro a h
    have h : (F a || (pi.contains (some a) && !pi'.contains (some a))) = true := h
    show (if (pi.contains (some a) && !pi'.contains (some a)) = true then H a else B a) ≠ none
    cases q : (pi.contains (some a) && !pi'.contains (some a)) with
    | true =>
      rw [if_pos rfl]
      obtain ⟨_, _, o, e⟩ := ownF a (Bool.and_eq_true_iff.mp q).1
      rw [e]; simp
    | false =>
      rw [q, Bool.or_false] at h
      rw [if_neg (by simp)]
      exact S.forn a h
  · -- ext
    intro a o e
    have e : (if (pi.contains (some a) && !pi'.contains (some a)) = true then H a else B a) = some o := e
    split at e
    · exact e
    · exact S.ext a o e
  · -- dat
    intro i d h
    obtain ⟨v, h1, h2⟩ := renum_dat 0 r i d h
    refine ⟨v, by rw [List.getElem?_map, h1]; rfl, by rw [he H]; exact h2⟩
  · -- ref
    intro i j h
    obtain ⟨_, k, a, h1, h2, h3⟩ := renum_own 0 r i j h
    refine ⟨a, ?_, by rw [List.getElem?_map, h3]; rfl⟩
    show ((ownKs as).map fun k => pi.getD k none)[j]? = _
    rw [Nat.sub_zero] at h1
    rw [List.getElem?_map, h1]
    show some (pi.getD k none) = _
    rw [getD k a h2]
  · -- back
    intro mu' H2 S' x
    have hl : ∀ k ∈ ownKs as, k < mu.length := fun k hk => by
      obtain ⟨a, e⟩ := oa k hk
      rw [← S.len]; exact (List.getElem?_eq_some_iff.mp e).1
    have l' : mu'.length = (ownKs as).length := by rw [← S'.len]; simp [pi']
    refine ⟨by rw [putBack_length]; exact S.len, S.slen, S.inj, fun k a d h1 h2 => ?_, fun k h => ?_, S.forn, fun a o e => ?_, fun i d h => ?_, S.ref⟩
    · obtain ⟨q1, q2, _⟩ := ownF a (mem_pi.mpr ⟨k, h1⟩)
      by_cases hk : k ∈ ownKs as
      · obtain ⟨j, hj⟩ := List.mem_iff_getElem?.mp hk
        have lj : j < mu'.length := by rw [l']; exact (List.getElem?_eq_some_iff.mp hj).1
        have e2 := putBack_in (ownKs as) mu' mu j k mu'[j] nd hl hj (by simp [lj])
        rw [e2] at h2
        have pj : pi'[j]? = some (some a) := by
          show ((ownKs as).map fun k => pi.getD k none)[j]? = _
          rw [List.getElem?_map, hj]
          show some (pi.getD k none) = _
          rw [getD k a h1]
        obtain ⟨_, _, o, z1, z2⟩ := S'.own j a mu'[j] pj (by simp [lj])
        rw [he H2] at z2
        cases h2
        exact ⟨q1, q2, o, z1, z2⟩
      · rw [putBack_out _ _ _ hk] at h2
        obtain ⟨_, _, o, z1, z2⟩ := S.own k a d h1 h2
        have nin : pi'.contains (some a) = false := by
          cases q : pi'.contains (some a) with
          | false => rfl
          | true =>
            obtain ⟨j, hj⟩ := mem_pi.mp q
            obtain ⟨k', e1, p1⟩ := pi'_at j a hj
            have := S.inj k k' a h1 p1
            subst this
            exact absurd (List.mem_of_getElem? e1) hk
        have hB : B' a = some o := by
          show (if (pi.contains (some a) && !pi'.contains (some a)) = true then H a else B a) = some o
          rw [nin, mem_pi.mpr ⟨k, h1⟩]; simp [z1]
        exact ⟨q1, q2, o, S'.ext a o hB, z2.mono x⟩
    · have hk : k ∉ ownKs as := fun hk => by
        obtain ⟨a, e⟩ := oa k hk
        rw [h] at e; cases e
      rw [putBack_out _ _ _ hk]
      exact S.frz k h
    · refine S'.ext a o ?_
      show (if (pi.contains (some a) && !pi'.contains (some a)) = true then H a else B a) = some o
      cases q : pi.contains (some a) with
      | false => simpa using e
      | true =>
        obtain ⟨q1, _⟩ := ownF a q
        rw [q1] at e; cases e
    · obtain ⟨v, h1, h2⟩ := S.dat i d h
      exact ⟨v, h1, h2.mono x⟩
/-- the promise, from what the caller has -/
theorem call_sp {m : Mir} {W : WX} {Q : VK} (S : Sat K mg B F pi rho mu σ H) {vs : List V} {as : List Sl} (r : ArgsR K mg F pi H vs as) (h : ContE K mg W B F pi rho σ H Q (callM m as mu)) :
    SpM K mg m vs H Q (fun cls dd H' => W cls dd σ H') := by
  unfold callM at h
  split at h
  · rename_i nd
    obtain ⟨B', F', pi', he, S', back⟩ := call_sat S r nd
    refine ⟨B', F', pi', renum 0 as, (ownKs as).map fun k => mu.getD k .non, S', ?_⟩
    cases e : m (renum 0 as) ((ownKs as).map fun k => mu.getD k .non) with
    | ok d mu' =>
      rw [e] at h
      intro v H2 S2 x rr
      rw [he H, he H2] at x
      rw [he H2] at rr
      exact h v H2 (back mu' H2 S2 x) x rr
    | err z mu' =>
      rw [e] at h
      intro cls dd H2 S2 x rr
      rw [he H, he H2] at x
      rw [he H2] at rr
      exact h cls dd H2 (back mu' H2 S2 x) x rr
    | stuck => rw [e] at h; exact h
  · exact h.elim
end
end DL

set_option maxHeartbeats 4000000
/-! DLe: statements: what they do to data. -/
namespace DL
open PySem PySem.Spec L2

inductive Rst where
  | nx (rho : List Sl) (mu : List D)
  | rt (d : D) (mu : List D)
  | bk (rho : List Sl) (mu : List D)
  | ct (rho : List Sl) (mu : List D)
  | er (x : Exn) (rho : List Sl) (mu : List D)
  | stuck
  deriving Inhabited
abbrev FS := List Sl → List D → Rst

/-- pi' goes on from pi: new places behind, some frozen -/
structure PiExt (pi pi' : List (Option Addr)) : Prop where
  len : pi.length ≤ pi'.length
  at_ : ∀ (k : Nat) (a : Addr), pi[k]? = some (some a) → pi'[k]? = some (some a) ∨ pi'[k]? = some none
  no : ∀ k : Nat, pi[k]? = some none → pi'[k]? = some none
theorem PiExt.refl (pi : List (Option Addr)) : PiExt pi pi := ⟨Nat.le_refl _, fun _ _ h => .inl h, fun _ h => h⟩
theorem PiExt.trans {a b c : List (Option Addr)} (h : PiExt a b) (h' : PiExt b c) : PiExt a c :=
  ⟨Nat.le_trans h.len h'.len, fun k x e => by
    rcases h.at_ k x e with e | e
    · exact h'.at_ k x e
    · exact .inr (h'.no k e), fun k e => h'.no k (h.no k e)⟩
theorem PiExt.snoc (pi : List (Option Addr)) (p : Option Addr) : PiExt pi (pi ++ [p]) :=
  ⟨by simp, fun k a e => .inl (by rw [List.getElem?_append_left (List.getElem?_eq_some_iff.mp e).1]; exact e), fun k e => by rw [List.getElem?_append_left (List.getElem?_eq_some_iff.mp e).1]; exact e⟩

section
variable (K : PySem.W.Frag) (mg : Str → Option Value) (W : WX)
def Cont (B : Hp) (F : Addr → Bool) (pi : List (Option Addr)) (H : Hp) (Dn : Ends) : Rst → Prop
  | .nx rho mu => ∀ pi' σ' H', PiExt pi pi' → Sat K mg B F pi' rho mu σ' H' → Ext (hid F pi H) (hid F pi' H') → Dn.nx σ' H'
  | .bk rho mu => ∀ pi' σ' H', PiExt pi pi' → Sat K mg B F pi' rho mu σ' H' → Ext (hid F pi H) (hid F pi' H') → Dn.bk σ' H'
  | .ct rho mu => ∀ pi' σ' H', PiExt pi pi' → Sat K mg B F pi' rho mu σ' H' → Ext (hid F pi H) (hid F pi' H') → Dn.ct σ' H'
  | .rt d mu => ∀ pi' rho' σ' v H', PiExt pi pi' → Sat K mg B F pi' rho' mu σ' H' → Ext (hid F pi H) (hid F pi' H') → Rp K mg (hid F pi' H') v d → Dn.rt v H'
  | .er x rho mu => ∀ pi' cls dd σ' H', PiExt pi pi' → Sat K mg B F pi' rho mu σ' H' → Ext (hid F pi H) (hid F pi' H') → RpX K mg (hid F pi' H') cls dd x → W cls dd σ' H'
  | .stuck => False
def TDS (t : TS) (f : FS) : Prop := ∀ (B : Hp) (F : Addr → Bool) (pi : List (Option Addr)) (rho : List Sl) (mu : List D) (σ : L2.St) (H : Hp) (Dn : Ends),
  Sat K mg B F pi rho mu σ H → Cont K mg W B F pi H Dn (f rho mu) → t Dn σ H
end
section
variable {K : PySem.W.Frag} {mg : Str → Option Value} {W : WX} {B : Hp} {F : Addr → Bool} {pi pi1 : List (Option Addr)} {rho : List Sl} {mu mu' : List D} {σ : L2.St} {H H1 : Hp} {Dn : Ends}
theorem Cont.up (p : PiExt pi pi1) (e : Ext (hid F pi H) (hid F pi1 H1)) : ∀ {r : Rst}, Cont K mg W B F pi H Dn r → Cont K mg W B F pi1 H1 Dn r
  | .nx _ _, h => fun pi' σ' H' q S x => h pi' σ' H' (p.trans q) S (e.trans x)
  | .bk _ _, h => fun pi' σ' H' q S x => h pi' σ' H' (p.trans q) S (e.trans x)
  | .ct _ _, h => fun pi' σ' H' q S x => h pi' σ' H' (p.trans q) S (e.trans x)
  | .rt _ _, h => fun pi' r' σ' v H' q S x => h pi' r' σ' v H' (p.trans q) S (e.trans x)
  | .er _ _ _, h => fun pi' c d σ' H' q S x => h pi' c d σ' H' (p.trans q) S (e.trans x)
  | .stuck, h => h
/-- what follows an expression in a statement -/
def rBind {α : Type} (r : Rs α) (rho : List Sl) (k : α → List D → Rst) : Rst := match r with
  | .ok d mu => k d mu
  | .err x mu => .er x rho mu
  | .stuck => .stuck
theorem TD.stm {t : TE} {f : FE} {k : D → List D → Rst} {Q' : VK} (ht : TD K mg W t f) (S : Sat K mg B F pi rho mu σ H) (h : Cont K mg W B F pi H Dn (rBind (f rho mu) rho k))
    (go : ∀ d mu1 v H1, Sat K mg B F pi rho mu1 σ H1 → Ext (hid F pi H) (hid F pi H1) → Rp K mg (hid F pi H1) v d → Cont K mg W B F pi H1 Dn (k d mu1) → Q' v H1) : t σ H Q' := by
  refine ht B F pi rho mu σ H Q' S ?_
  cases e : f rho mu with
  | ok d mu1 => rw [e] at h; exact fun v H' S' e' r => go d mu1 v H' S' e' r (Cont.up (PiExt.refl _) e' h)
  | err x mu1 => rw [e] at h; exact fun c dd H' S' e' r => h pi c dd σ H' (PiExt.refl _) S' e' r
  | stuck => rw [e] at h; exact h
theorem TDT.stm {t : TT} {f : FE} {k : D → List D → Rst} {Q' : Bool → Hp → Prop} (ht : TDT K mg W t f) (S : Sat K mg B F pi rho mu σ H) (h : Cont K mg W B F pi H Dn (rBind (f rho mu) rho k)) (kb : ∀ d mu, (∀ b, d ≠ .bl b) → k d mu = .stuck)
    (go : ∀ b mu1 H1, Sat K mg B F pi rho mu1 σ H1 → Ext (hid F pi H) (hid F pi H1) → Cont K mg W B F pi H1 Dn (k (.bl b) mu1) → Q' b H1) : t σ H Q' := by
  refine ht B F pi rho mu σ H Q' S ?_
  cases e : f rho mu with
  | ok d mu1 =>
    rw [e] at h
    have no : (∀ b, d ≠ .bl b) → False := fun n => by
      have h2 : Cont K mg W B F pi H Dn (k d mu1) := h
      rw [kb d mu1 n] at h2; exact h2
    cases d with
    | bl b => exact fun H' S' e' => go b mu1 H' S' e' (Cont.up (PiExt.refl _) e' h)
    | non => exact no (by simp)
    | int _ => exact no (by simp)
    | str _ => exact no (by simp)
    | tup _ => exact no (by simp)
    | lst _ => exact no (by simp)
    | dct _ => exact no (by simp)
    | obj _ _ => exact no (by simp)
    | cls _ => exact no (by simp)
    | fro _ => exact no (by simp)
  | err x mu1 => rw [e] at h; exact fun c dd H' S' e' r => h pi c dd σ H' (PiExt.refl _) S' e' r
  | stuck => rw [e] at h; exact h

/-! ### slots -/
theorem Sat.set (S : Sat K mg B F pi rho mu σ H) {i : Nat} {v : V} {d : D} (r : Rp K mg (hid F pi H) v d) : Sat K mg B F pi (rho.set i (.dat d)) mu (σ.set i (some v)) H := by
  have hl := S.slen
  refine ⟨S.len, by rw [List.length_set, List.length_set]; exact hl, S.inj, S.own, S.frz, S.forn, S.ext, fun j d' h => ?_, fun j k h => ?_⟩
  · by_cases hj : i = j
    · subst hj
      have lt : i < rho.length := by
        have := (List.getElem?_eq_some_iff.mp h).1
        rwa [List.length_set] at this
      rw [List.getElem?_set_self lt] at h
      cases h
      exact ⟨v, by rw [List.getElem?_set_self (by omega)], r⟩
    · rw [List.getElem?_set_ne hj] at h ⊢
      exact S.dat j d' h
  · by_cases hj : i = j
    · subst hj
      have lt : i < rho.length := by
        have := (List.getElem?_eq_some_iff.mp h).1
        rwa [List.length_set] at this
      rw [List.getElem?_set_self lt] at h
      cases h
    · rw [List.getElem?_set_ne hj] at h ⊢
      exact S.ref j k h
theorem Sat.setOwn (S : Sat K mg B F pi rho mu σ H) {i k : Nat} {a : Addr} (hk : pi[k]? = some (some a)) : Sat K mg B F pi (rho.set i (.own k)) mu (σ.set i (some (.ref a))) H := by
  have hl := S.slen
  refine ⟨S.len, by rw [List.length_set, List.length_set]; exact hl, S.inj, S.own, S.frz, S.forn, S.ext, fun j d' h => ?_, fun j k' h => ?_⟩
  · by_cases hj : i = j
    · subst hj
      have lt : i < rho.length := by
        have := (List.getElem?_eq_some_iff.mp h).1
        rwa [List.length_set] at this
      rw [List.getElem?_set_self lt] at h
      cases h
    · rw [List.getElem?_set_ne hj] at h ⊢
      exact S.dat j d' h
  · by_cases hj : i = j
    · subst hj
      have lt : i < rho.length := by
        have := (List.getElem?_eq_some_iff.mp h).1
        rwa [List.length_set] at this
      rw [List.getElem?_set_self lt] at h
      cases h
      exact ⟨a, hk, by rw [List.getElem?_set_self (by omega)]⟩
    · rw [List.getElem?_set_ne hj] at h ⊢
      exact S.ref j k' h
/-- fewer things known of the slots -/
theorem Sat.weak (S : Sat K mg B F pi rho mu σ H) {rho' : List Sl} {σ' : L2.St} (hl : rho'.length = σ'.length) (h : ∀ (i : Nat) s, rho'[i]? = some s → s = .no ∨ (rho[i]? = some s ∧ σ'[i]? = σ[i]?)) : Sat K mg B F pi rho' mu σ' H := by
  refine ⟨S.len, hl, S.inj, S.own, S.frz, S.forn, S.ext, fun i d e => ?_, fun i k e => ?_⟩
  · rcases h i _ e with q | ⟨q, z⟩
    · cases q
    · rw [z]; exact S.dat i d q
  · rcases h i _ e with q | ⟨q, z⟩
    · cases q
    · rw [z]; exact S.ref i k q

/-! ### a new own object; frozen again -/
theorem Sat.push (S : Sat K mg B F pi rho mu σ H) {p : Addr} {o : HO} {d : D} (hp : H p = none) (r : RpO K mg (hid F pi H) o d) :
    Sat K mg B F (pi ++ [some p]) rho (mu ++ [d]) σ (upd H p o) ∧ Ext (hid F pi H) (hid F (pi ++ [some p]) (upd H p o)) := by
  have hh : ∀ a, hidB F (pi ++ [some p]) a = (hidB F pi a || decide (a = p)) := fun a => by
    unfold hidB
    have e : (pi ++ [some p]).contains (some a) = (pi.contains (some a) || decide (a = p)) := by
      rw [Bool.eq_iff_iff, Bool.or_eq_true, List.contains_iff_mem, List.contains_iff_mem, decide_eq_true_eq, List.mem_append, List.mem_singleton, Option.some.injEq]
    rw [e, Bool.or_assoc]
  have ex : Ext (hid F pi H) (hid F (pi ++ [some p]) (upd H p o)) := fun a u e => by
    obtain ⟨h1, h2⟩ := hid_some e
    have ne : a ≠ p := ne_of_none h2 hp
    rw [hid_of (by rw [hh, h1, decide_eq_false ne]; rfl), upd_ne ne]
    exact h2
  have nB : B p = none := by
    cases q : B p with
    | none => rfl
    | some u => have := S.ext p u q; rw [hp] at this; cases this
  have nF : F p = false := by
    cases q : F p with
    | false => rfl
    | true => exact absurd nB (S.forn p q)
  refine ⟨⟨by simp [S.len], S.slen, fun i j a h1 h2 => ?_, fun k a d' h1 h2 => ?_, fun k h => ?_, S.forn, fun a u e => ?_, fun i d' h => ?_, fun i k h => ?_⟩, ex⟩
  · have np : ∀ i : Nat, pi[i]? ≠ some (some p) := fun i e => by
      have hl : i < mu.length := by rw [← S.len]; exact (List.getElem?_eq_some_iff.mp e).1
      obtain ⟨_, _, u, e2, _⟩ := S.own i p mu[i] e (by simp [hl])
      rw [hp] at e2; cases e2
    have split : ∀ i : Nat, (pi ++ [some p])[i]? = some (some a) → (pi[i]? = some (some a)) ∨ (i = pi.length ∧ a = p) := fun i e => by
      by_cases hi : i < pi.length
      · rw [List.getElem?_append_left hi] at e; exact .inl e
      · rw [List.getElem?_append_right (by omega)] at e
        have hz : i - pi.length = 0 := by
          have := (List.getElem?_eq_some_iff.mp e).1
          simp at this; omega
        rw [hz] at e
        simp at e
        exact .inr ⟨by omega, e.symm⟩
    rcases split i h1 with q1 | ⟨q1, z1⟩ <;> rcases split j h2 with q2 | ⟨q2, z2⟩
    · exact S.inj i j a q1 q2
    · subst z2; exact absurd q1 (np i)
    · subst z1; exact absurd q2 (np j)
    · omega
  · by_cases hk : k < pi.length
    · rw [List.getElem?_append_left hk] at h1
      rw [List.getElem?_append_left (by rw [← S.len]; exact hk)] at h2
      obtain ⟨b1, b2, u, b3, b4⟩ := S.own k a d' h1 h2
      refine ⟨b1, b2, u, ?_, b4.mono ex⟩
      rw [upd_ne (ne_of_none b3 hp)]; exact b3
    · have hz : k = pi.length := by
        have := (List.getElem?_eq_some_iff.mp h1).1
        simp at this; omega
      subst hz
      rw [List.getElem?_append_right (Nat.le_refl _)] at h1
      rw [S.len, List.getElem?_append_right (Nat.le_refl _)] at h2
      simp at h1 h2
      subst h1; subst h2
      exact ⟨nB, nF, o, upd_same, r.mono ex⟩
  · by_cases hk : k < pi.length
    · rw [List.getElem?_append_left hk] at h
      rw [List.getElem?_append_left (by rw [← S.len]; exact hk)]
      exact S.frz k h
    · rw [List.getElem?_append_right (by omega)] at h
      have := (List.getElem?_eq_some_iff.mp h).1
      have hz : k - pi.length = 0 := by simp at this; omega
      rw [hz] at h; simp at h
  · rw [upd_ne (ne_of_none (S.ext a u e) hp)]; exact S.ext a u e
  · obtain ⟨v, h1, h2⟩ := S.dat i d' h
    exact ⟨v, h1, h2.mono ex⟩
  · obtain ⟨a, h1, h2⟩ := S.ref i k h
    exact ⟨a, by rw [List.getElem?_append_left (List.getElem?_eq_some_iff.mp h1).1]; exact h1, h2⟩
/-- the last own object becomes data -/
theorem Sat.pop {p : Addr} {d : D} (S : Sat K mg B F (pi ++ [some p]) rho (mu ++ [d]) σ H) (hr : ∀ (i k : Nat), rho[i]? = some (.own k) → k < pi.length) :
    Sat K mg B F pi rho mu σ H ∧ Ext (hid F (pi ++ [some p]) H) (hid F pi H) ∧ Rp K mg (hid F pi H) (.ref p) d := by
  have hl : pi.length = mu.length := by have := S.len; simp at this; exact this
  have at1 : ∀ k : Nat, k < pi.length → (pi ++ [some p])[k]? = pi[k]? := fun k h => List.getElem?_append_left h
  have at2 : (pi ++ [some p])[pi.length]? = some (some p) := by simp
  have hh : ∀ a, hidB F (pi ++ [some p]) a = (hidB F pi a || decide (a = p)) := fun a => by
    unfold hidB
    have e : (pi ++ [some p]).contains (some a) = (pi.contains (some a) || decide (a = p)) := by
      rw [Bool.eq_iff_iff, Bool.or_eq_true, List.contains_iff_mem, List.contains_iff_mem, decide_eq_true_eq, List.mem_append, List.mem_singleton, Option.some.injEq]
    rw [e, Bool.or_assoc]
  have ex : Ext (hid F (pi ++ [some p]) H) (hid F pi H) := fun a u e => by
    obtain ⟨h1, h2⟩ := hid_some e
    rw [hh] at h1
    rw [hid_of (Bool.or_eq_false_iff.mp h1).1]; exact h2
  obtain ⟨b1, b2, u, b3, b4⟩ := S.own pi.length p d at2 (by rw [hl]; simp)
  have hpn : hidB F pi p = false := by
    unfold hidB
    rw [b2, Bool.false_or]
    cases q : pi.contains (some p) with
    | false => rfl
    | true =>
      obtain ⟨k, hk⟩ := mem_pi.mp q
      have lt := (List.getElem?_eq_some_iff.mp hk).1
      have := S.inj k pi.length p (by rw [at1 k lt]; exact hk) at2
      omega
  refine ⟨⟨hl, S.slen, fun i j a h1 h2 => ?_, fun k a d' h1 h2 => ?_, fun k h => ?_, S.forn, S.ext, fun i d' h => ?_, fun i k h => ?_⟩, ex, (b4.mono ex).rp (by rw [hid_of hpn]; exact b3)⟩
  · exact S.inj i j a (by rw [at1 i (List.getElem?_eq_some_iff.mp h1).1]; exact h1) (by rw [at1 j (List.getElem?_eq_some_iff.mp h2).1]; exact h2)
  · have lt := (List.getElem?_eq_some_iff.mp h1).1
    obtain ⟨c1, c2, z, c3, c4⟩ := S.own k a d' (by rw [at1 k lt]; exact h1) (by rw [List.getElem?_append_left (by rw [← hl]; exact lt)]; exact h2)
    exact ⟨c1, c2, z, c3, c4.mono ex⟩
  · have lt := (List.getElem?_eq_some_iff.mp h).1
    have := S.frz k (by rw [at1 k lt]; exact h)
    rwa [List.getElem?_append_left (by rw [← hl]; exact lt)] at this
  · obtain ⟨v, h1, h2⟩ := S.dat i d' h
    exact ⟨v, h1, h2.mono ex⟩
  · obtain ⟨a, h1, h2⟩ := S.ref i k h
    exact ⟨a, by rw [at1 k (hr i k h)] at h1; exact h1, h2⟩
/-- an own object's content changes -/
theorem Sat.updOwn (S : Sat K mg B F pi rho mu σ H) {k : Nat} {a : Addr} {o : HO} {d : D} (hk : pi[k]? = some (some a)) (r : RpO K mg (hid F pi H) o d) :
    Sat K mg B F pi rho (mu.set k d) σ (upd H a o) ∧ Ext (hid F pi H) (hid F pi (upd H a o)) := by
  have lt := (List.getElem?_eq_some_iff.mp hk).1
  have ltm : k < mu.length := by rw [← S.len]; exact lt
  obtain ⟨b1, b2, _⟩ := S.own k a mu[k] hk (by simp [ltm])
  have hin : hidB F pi a = true := by unfold hidB; rw [mem_pi.mpr ⟨k, hk⟩]; simp
  have ex : Ext (hid F pi H) (hid F pi (upd H a o)) := fun b u e => by
    obtain ⟨h1, h2⟩ := hid_some e
    have ne : b ≠ a := fun z => by rw [z, hin] at h1; cases h1
    rw [hid_of h1, upd_ne ne]; exact h2
  refine ⟨⟨by rw [List.length_set]; exact S.len, S.slen, S.inj, fun j b d' h1 h2 => ?_, fun j h => ?_, S.forn, fun b u e => ?_, fun i d' h => ?_, S.ref⟩, ex⟩
  · by_cases hj : j = k
    · subst hj
      rw [hk] at h1; cases h1
      rw [List.getElem?_set_self ltm] at h2; cases h2
      exact ⟨b1, b2, o, upd_same, r.mono ex⟩
    · rw [List.getElem?_set_ne (Ne.symm hj)] at h2
      obtain ⟨c1, c2, z, c3, c4⟩ := S.own j b d' h1 h2
      have ne : b ≠ a := fun z => by
        subst z
        exact hj (S.inj j k b h1 hk)
      exact ⟨c1, c2, z, by rw [upd_ne ne]; exact c3, c4.mono ex⟩
  · have ne : k ≠ j := fun z => by rw [← z, hk] at h; cases h
    rw [List.getElem?_set_ne ne]; exact S.frz j h
  · have ne : b ≠ a := fun z => by rw [z, b1] at e; cases e
    rw [upd_ne ne]; exact S.ext b u e
  · obtain ⟨v, h1, h2⟩ := S.dat i d' h
    exact ⟨v, h1, h2.mono ex⟩
/-! freezing an own object in place -/
def frzS (k : Nat) (d : D) : List Sl → List Sl
  | [] => []
  | .own j :: r => (if j = k then .dat d else .own j) :: frzS k d r
  | s :: r => s :: frzS k d r
theorem frzS_len (k : Nat) (d : D) : ∀ l : List Sl, (frzS k d l).length = l.length
  | [] => rfl
  | .own _ :: r => congrArg (· + 1) (frzS_len k d r)
  | .no :: r => congrArg (· + 1) (frzS_len k d r)
  | .dat _ :: r => congrArg (· + 1) (frzS_len k d r)
theorem frzS_at (k : Nat) (d : D) : ∀ (l : List Sl) (i : Nat), (frzS k d l)[i]? = (l[i]?).map fun s => match s with
    | .own j => if j = k then .dat d else .own j
    | s => s
  | [], i => by simp [frzS]
  | .own j :: r, 0 => by simp [frzS]
  | .no :: r, 0 => by simp [frzS]
  | .dat _ :: r, 0 => by simp [frzS]
  | .own j :: r, i + 1 => by simp only [frzS, List.getElem?_cons_succ]; exact frzS_at k d r i
  | .no :: r, i + 1 => by simp only [frzS, List.getElem?_cons_succ]; exact frzS_at k d r i
  | .dat _ :: r, i + 1 => by simp only [frzS, List.getElem?_cons_succ]; exact frzS_at k d r i
theorem Sat.freeze (S : Sat K mg B F pi rho mu σ H) {k : Nat} {a : Addr} {d : D} (hk : pi[k]? = some (some a)) (hd : mu[k]? = some d) :
    Sat K mg B F (pi.set k none) (frzS k d rho) (mu.set k .non) σ H ∧ PiExt pi (pi.set k none) ∧ Ext (hid F pi H) (hid F (pi.set k none) H) ∧ Rp K mg (hid F (pi.set k none) H) (.ref a) d := by
  have lt := (List.getElem?_eq_some_iff.mp hk).1
  have ltm : k < mu.length := by rw [← S.len]; exact lt
  obtain ⟨b1, b2, o, b3, b4⟩ := S.own k a d hk hd
  have sub : ∀ b, (pi.set k none).contains (some b) = true → pi.contains (some b) = true ∧ b ≠ a := fun b h => by
    obtain ⟨j, hj⟩ := mem_pi.mp h
    by_cases e : k = j
    · subst e; rw [List.getElem?_set_self lt] at hj; cases hj
    · rw [List.getElem?_set_ne e] at hj
      refine ⟨mem_pi.mpr ⟨j, hj⟩, fun z => ?_⟩
      subst z
      exact e (S.inj k j b hk hj)
  have ex : Ext (hid F pi H) (hid F (pi.set k none) H) := fun b u e => by
    obtain ⟨h1, h2⟩ := hid_some e
    have h3 : hidB F (pi.set k none) b = false := by
      unfold hidB at h1 ⊢
      obtain ⟨q1, q2⟩ := Bool.or_eq_false_iff.mp h1
      rw [q1, Bool.false_or]
      cases z : (pi.set k none).contains (some b) with
      | false => rfl
      | true => rw [(sub b z).1] at q2; cases q2
    rw [hid_of h3]; exact h2
  have hpa : hidB F (pi.set k none) a = false := by
    unfold hidB
    rw [b2, Bool.false_or]
    cases z : (pi.set k none).contains (some a) with
    | false => rfl
    | true => exact absurd rfl (sub a z).2
  have rp : Rp K mg (hid F (pi.set k none) H) (.ref a) d := (b4.mono ex).rp (by rw [hid_of hpa]; exact b3)
  refine ⟨⟨by simp [S.len], by rw [frzS_len]; exact S.slen, fun i j b h1 h2 => ?_, fun j b d' h1 h2 => ?_, fun j h => ?_, S.forn, S.ext, fun i d' h => ?_, fun i j h => ?_⟩, ⟨by simp, fun j b h => ?_, fun j h => ?_⟩, ex, rp⟩
  · have f : ∀ i : Nat, (pi.set k none)[i]? = some (some b) → pi[i]? = some (some b) := fun i e => by
      by_cases q : k = i
      · subst q; rw [List.getElem?_set_self lt] at e; cases e
      · rwa [List.getElem?_set_ne q] at e
    exact S.inj i j b (f i h1) (f j h2)
  · by_cases q : k = j
    · subst q; rw [List.getElem?_set_self lt] at h1; cases h1
    · rw [List.getElem?_set_ne q] at h1 h2
      obtain ⟨c1, c2, z, c3, c4⟩ := S.own j b d' h1 h2
      exact ⟨c1, c2, z, c3, c4.mono ex⟩
  · by_cases q : k = j
    · subst q; rw [List.getElem?_set_self ltm]
    · rw [List.getElem?_set_ne q] at h ⊢; exact S.frz j h
  · rw [frzS_at] at h
    cases q : rho[i]? with
    | none => rw [q] at h; cases h
    | some s =>
      rw [q] at h
      cases s with
      | no => cases h
      | dat e =>
        cases h
        obtain ⟨v, h1, h2⟩ := S.dat i _ q
        exact ⟨v, h1, h2.mono ex⟩
      | own j =>
        have h' : some (if j = k then Sl.dat d else .own j) = some (Sl.dat d') := h
        clear h
        by_cases ej : j = k
        · rw [if_pos ej] at h'
          subst ej
          cases h'
          obtain ⟨b, h1, h2⟩ := S.ref i j q
          rw [hk] at h1; cases h1
          exact ⟨_, h2, rp⟩
        · rw [if_neg ej] at h'; cases h'
  · rw [frzS_at] at h
    cases q : rho[i]? with
    | none => rw [q] at h; cases h
    | some s =>
      rw [q] at h
      cases s with
      | no => cases h
      | dat e => cases h
      | own j' =>
        have h' : some (if j' = k then Sl.dat d else .own j') = some (Sl.own j) := h
        clear h
        by_cases ne : j' = k
        · rw [if_pos ne] at h'; cases h'
        · rw [if_neg ne] at h'
          cases h'
          obtain ⟨b, h1, h2⟩ := S.ref i _ q
          exact ⟨b, by rw [List.getElem?_set_ne (Ne.symm ne)]; exact h1, h2⟩
  · by_cases q : k = j
    · subst q; right; rw [List.getElem?_set_self lt]
    · left; rw [List.getElem?_set_ne q]; exact h
  · by_cases q : k = j
    · subst q; rw [List.getElem?_set_self lt]
    · rw [List.getElem?_set_ne q]; exact h
end
end DL

set_option maxHeartbeats 4000000
/-! DLf: blocks, the small statements, loops, a def's body. -/
namespace DL
open PySem PySem.Spec L2

def sNx : FS := fun rho mu => .nx rho mu
def sSeq (f g : FS) : FS := fun rho mu => match f rho mu with
  | .nx r m => g r m
  | r => r
def sRet (f : FE) : FS := fun rho mu => rBind (f rho mu) rho fun d mu1 => .rt d mu1
def sRetN : FS := fun _ mu => .rt .non mu
def sIf (c : FE) (f g : FS) : FS := fun rho mu => rBind (c rho mu) rho fun d mu1 => match d with
  | .bl true => f rho mu1
  | .bl false => g rho mu1
  | _ => .stuck
def sSet (i : Nat) (f : FE) : FS := fun rho mu => rBind (f rho mu) rho fun d mu1 => .nx (rho.set i (.dat d)) mu1
def sDrop (f : FE) : FS := fun rho mu => rBind (f rho mu) rho fun _ mu1 => .nx rho mu1
def sPar (i j : Nat) (f : FA) : FS := fun rho mu => rBind (f rho mu) rho fun ds mu1 => match ds with
  | [a, b] => .nx ((rho.set i (.dat a)).set j (.dat b)) mu1
  | _ => .stuck
def sPar3 (i j l : Nat) (f : FA) : FS := fun rho mu => rBind (f rho mu) rho fun ds mu1 => match ds with
  | [a, b, c] => .nx (((rho.set i (.dat a)).set j (.dat b)).set l (.dat c)) mu1
  | _ => .stuck
def sBreak : FS := fun rho mu => .bk rho mu
def sCont : FS := fun rho mu => .ct rho mu
/-- name += ints -/
def sAug (i : Nat) (g : Int → Int → Int) (f : FE) : FS := fun rho mu => match rho[i]? with
  | some (.dat (.int a)) => rBind (f rho mu) rho fun d mu1 => (match d with
    | .int b => .nx (rho.set i (.dat (.int (g a b)))) mu1
    | _ => .stuck)
  | _ => .stuck
/-- the own object in slot i becomes data -/
def sFrz (i : Nat) (f : FS) : FS := fun rho mu => match rho[i]? with
  | some (.own k) => (match mu[k]? with
    | some d => f (frzS k d rho) (mu.set k .non)
    | none => .stuck)
  | _ => f rho mu
/-! targets -/
abbrev FG := D → List Sl → Option (List Sl)
abbrev FGs := List D → List Sl → Option (List Sl)
def gN (i : Nat) : FG := fun d rho => some (rho.set i (.dat d))
def gsNil : FGs := fun ds rho => if ds.isEmpty then some rho else none
def gsCons (g : FG) (r : FGs) : FGs := fun ds rho => match ds with
  | d :: ds => (g d rho).bind fun rho1 => r ds rho1
  | [] => none
def gTupD (n : Nat) (r : FGs) : FG := fun d rho => match d with
  | .tup ds => if ds.length = n then r ds rho else none
  | _ => none
def sTgt (f : FE) (g : FG) : FS := fun rho mu => rBind (f rho mu) rho fun d mu1 => match g d rho with
  | some rho1 => .nx rho1 mu1
  | none => .stuck
/-! loops -/
def loopL (g : FG) (body : FS) : List D → FS
  | [], rho, mu => .nx rho mu
  | d :: ds, rho, mu => match g d rho with
    | none => .stuck
    | some rho1 => (match body rho1 mu with
      | .nx r m => loopL g body ds r m
      | .ct r m => loopL g body ds r m
      | .bk r m => .nx r m
      | r => r)
def sFor (it : List Sl → List D → Rs (List D)) (g : FG) (body : FS) : FS := fun rho mu => rBind (it rho mu) rho fun ds mu1 => loopL g body ds rho mu1
def sWhile (c : FE) (body : FS) : Nat → FS
  | 0, _, _ => .stuck
  | n + 1, rho, mu => rBind (c rho mu) rho fun d mu1 => (match d with
    | .bl true => (match body rho mu1 with
      | .nx r m => sWhile c body n r m
      | .ct r m => sWhile c body n r m
      | .bk r m => .nx r m
      | r => r)
    | .bl false => .nx rho mu1
    | _ => .stuck)

section
variable {K : PySem.W.Frag} {mg : Str → Option Value} {W : WX} {B : Hp} {F : Addr → Bool} {pi pi1 : List (Option Addr)} {rho : List Sl} {mu mu' : List D} {σ : L2.St} {H H1 : Hp} {Dn : Ends}
theorem tds_next : TDS K mg W tNext sNx := fun B F pi rho mu σ H Dn S h => h pi σ H (PiExt.refl _) S (Ext.refl _)
theorem tds_never {f : FS} (h : ∀ rho mu, f rho mu = .stuck) : TDS K mg W tNever f := fun B F pi rho mu σ H Dn S c => by
  rw [h rho mu] at c; exact c
def sNever : FS := fun _ _ => .stuck
theorem tds_nev : TDS K mg W tNever sNever := tds_never fun _ _ => rfl
theorem tds_seq {t u : TS} {f g : FS} (ht : TDS K mg W t f) (hu : TDS K mg W u g) : TDS K mg W (tSeq t u) (sSeq f g) := by
  intro B F pi rho mu σ H Dn S h
  show t { Dn with nx := u Dn } σ H
  refine ht B F pi rho mu σ H _ S ?_
  unfold sSeq at h
  cases e : f rho mu with
  | nx r m =>
    rw [e] at h
    exact fun pi' σ' H' q S' x => hu B F pi' r m σ' H' Dn S' (Cont.up q x h)
  | rt d m => rw [e] at h; exact h
  | bk r m => rw [e] at h; exact h
  | ct r m => rw [e] at h; exact h
  | er x r m => rw [e] at h; exact h
  | stuck => rw [e] at h; exact h
theorem tds_ret {te : TE} {f : FE} (he : TD K mg W te f) : TDS K mg W (tRet te) (sRet f) := by
  intro B F pi rho mu σ H Dn S h
  exact he.stm S h fun d mu1 v H1 S1 x1 r1 h1 => h1 pi rho σ v H1 (PiExt.refl _) S1 (Ext.refl _) r1
theorem tds_retN : TDS K mg W tRetN sRetN := fun B F pi rho mu σ H Dn S h => h pi rho σ .non H (PiExt.refl _) S (Ext.refl _) .non
theorem tds_if {tc : TT} {t u : TS} {c : FE} {f g : FS} (hc : TDT K mg W tc c) (ht : TDS K mg W t f) (hu : TDS K mg W u g) : TDS K mg W (tIfS tc t u) (sIf c f g) := by
  intro B F pi rho mu σ H Dn S h
  refine hc.stm S h (fun d mu n => ?_) fun b mu1 H1 S1 x1 h1 => ?_
  · cases d with
    | bl b => exact absurd rfl (n b)
    | _ => rfl
  · cases b with
    | true => exact ht B F pi rho mu1 σ H1 Dn S1 h1
    | false => exact hu B F pi rho mu1 σ H1 Dn S1 h1
theorem tds_set {te : TE} {f : FE} {i : Nat} (he : TD K mg W te f) : TDS K mg W (tAsg te (gName i)) (sSet i f) := by
  intro B F pi rho mu σ H Dn S h
  exact he.stm S h fun d mu1 v H1 S1 x1 r1 h1 => h1 pi _ H1 (PiExt.refl _) (S1.set r1) (Ext.refl _)
theorem tds_drop {te : TE} {f : FE} (he : TD K mg W te f) : TDS K mg W (tDrop te) (sDrop f) := by
  intro B F pi rho mu σ H Dn S h
  exact he.stm S h fun d mu1 v H1 S1 x1 r1 h1 => h1 pi _ H1 (PiExt.refl _) S1 (Ext.refl _)
theorem tds_break : TDS K mg W tBreak sBreak := fun B F pi rho mu σ H Dn S h => h pi σ H (PiExt.refl _) S (Ext.refl _)
theorem tds_cont : TDS K mg W tCont sCont := fun B F pi rho mu σ H Dn S h => h pi σ H (PiExt.refl _) S (Ext.refl _)
theorem TDA.stm {t : TA} {f : FA} {k : List D → List D → Rst} {Q' : List V → Hp → Prop} (ht : TDA K mg W t f) (S : Sat K mg B F pi rho mu σ H) (h : Cont K mg W B F pi H Dn (rBind (f rho mu) rho k))
    (go : ∀ d mu1 v H1, Sat K mg B F pi rho mu1 σ H1 → Ext (hid F pi H) (hid F pi H1) → RpL K mg (hid F pi H1) v d → Cont K mg W B F pi H1 Dn (k d mu1) → Q' v H1) : t σ H Q' := by
  refine ht B F pi rho mu σ H Q' S ?_
  cases e : f rho mu with
  | ok d mu1 => rw [e] at h; exact fun v H' S' e' r => go d mu1 v H' S' e' r (Cont.up (PiExt.refl _) e' h)
  | err x mu1 => rw [e] at h; exact fun c dd H' S' e' r => h pi c dd σ H' (PiExt.refl _) S' e' r
  | stuck => rw [e] at h; exact h
theorem tds_par {ta : TA} {f : FA} {i j : Nat} (ha : TDA K mg W ta f) : TDS K mg W (tPar i j ta) (sPar i j f) := by
  intro B F pi rho mu σ H Dn S h
  refine ha.stm S h fun d mu1 v H1 S1 x1 r1 h1 => ?_
  cases r1 with
  | nil => exact h1.elim
  | cons a r =>
    cases r with
    | nil => exact h1.elim
    | cons b r =>
      cases r with
      | nil => exact ⟨_, _, rfl, h1 pi _ H1 (PiExt.refl _) ((S1.set a).set b) (Ext.refl _)⟩
      | cons _ _ => exact h1.elim
theorem tds_par3 {ta : TA} {f : FA} {i j l : Nat} (ha : TDA K mg W ta f) : TDS K mg W (tPar3 i j l ta) (sPar3 i j l f) := by
  intro B F pi rho mu σ H Dn S h
  refine ha.stm S h fun d mu1 v H1 S1 x1 r1 h1 => ?_
  cases r1 with
  | nil => exact h1.elim
  | cons a r =>
    cases r with
    | nil => exact h1.elim
    | cons b r =>
      cases r with
      | nil => exact h1.elim
      | cons c r =>
        cases r with
        | nil => exact ⟨_, _, _, rfl, h1 pi _ H1 (PiExt.refl _) (((S1.set a).set b).set c) (Ext.refl _)⟩
        | cons _ _ => exact h1.elim
theorem tds_aug {te : TE} {f : FE} {i : Nat} {g : Int → Int → Int} (he : TD K mg W te f) : TDS K mg W (tAug i te (ipI g)) (sAug i g f) := by
  intro B F pi rho mu σ H Dn S h
  unfold sAug at h
  split at h
  · rename_i a e
    obtain ⟨v, h1, h2⟩ := S.dat i _ e
    cases h2
    refine ⟨_, h1, ?_⟩
    refine he.stm S h fun d mu1 v H1 S1 x1 r1 h1 => ?_
    cases r1 with
    | int b => exact ⟨a, b, rfl, rfl, h1 pi _ H1 (PiExt.refl _) (S1.set (.int _)) (Ext.refl _)⟩
    | _ => exact h1.elim
  · exact h.elim
theorem tds_frz {t : TS} {f : FS} {i : Nat} (ht : TDS K mg W t f) : TDS K mg W t (sFrz i f) := by
  intro B F pi rho mu σ H Dn S h
  unfold sFrz at h
  split at h
  · rename_i k e
    split at h
    · rename_i d ed
      obtain ⟨a, h1, h2⟩ := S.ref i k e
      obtain ⟨S', p, x, _⟩ := S.freeze h1 ed
      exact ht B F _ _ _ σ H Dn S' (Cont.up p x h)
    · exact h.elim
  · exact ht B F pi rho mu σ H Dn S h
/-! targets: ix, the slots that they store -/
theorem wipe_set {σ : L2.St} {i : Nat} {x : Option V} : ∀ {vs : List Nat}, i ∈ vs → wipe (σ.set i x) vs = wipe σ vs
  | [], h => by cases h
  | v :: vs, h => by
    show (wipe (σ.set i x) vs).set v none = (wipe σ vs).set v none
    by_cases hi : i ∈ vs
    · rw [wipe_set hi]
    · rcases List.mem_cons.mp h with e | e
      · subst e
        have go : ∀ (ws : List Nat), i ∉ ws → wipe (σ.set i x) ws = (wipe σ ws).set i x := fun ws => by
          induction ws with
          | nil => intro _; rfl
          | cons w ws ih =>
            intro hn
            show (wipe (σ.set i x) ws).set w none = ((wipe σ ws).set w none).set i x
            rw [ih (List.not_mem_of_not_mem_cons hn), List.set_comm _ _ (fun e => hn (by rw [e]; exact List.mem_cons_self))]
        rw [go vs hi, List.set_set]
      · exact absurd e hi
variable (K mg) in
def TDG (t : TG) (ix : List Nat) (g : FG) : Prop := ∀ (B : Hp) (F : Addr → Bool) (pi : List (Option Addr)) (rho rho1 : List Sl) (mu : List D) (σ : L2.St) (H : Hp) (v : V) (d : D) (Q : L2.St → Hp → Prop),
  Sat K mg B F pi rho mu σ H → Rp K mg (hid F pi H) v d → g d rho = some rho1 → (∀ σ', Sat K mg B F pi rho1 mu σ' H → (∀ vs : List Nat, (∀ i ∈ ix, i ∈ vs) → wipe σ' vs = wipe σ vs) → Q σ' H) → t v σ H Q
variable (K mg) in
def TDGs (t : TGs) (ix : List Nat) (g : FGs) : Prop := ∀ (B : Hp) (F : Addr → Bool) (pi : List (Option Addr)) (rho rho1 : List Sl) (mu : List D) (σ : L2.St) (H : Hp) (vs : List V) (ds : List D) (Q : L2.St → Hp → Prop),
  Sat K mg B F pi rho mu σ H → RpL K mg (hid F pi H) vs ds → g ds rho = some rho1 → (∀ σ', Sat K mg B F pi rho1 mu σ' H → (∀ vs : List Nat, (∀ i ∈ ix, i ∈ vs) → wipe σ' vs = wipe σ vs) → Q σ' H) → t vs σ H Q
theorem tdg_name {i : Nat} : TDG K mg (gName i) [i] (gN i) := fun B F pi rho rho1 mu σ H v d Q S r e k => by
  cases e
  exact k _ (S.set r) fun vs h => wipe_set (h i List.mem_cons_self)
theorem tdgs_nil : TDGs K mg gNil [] gsNil := fun B F pi rho rho1 mu σ H vs ds Q S r e k => by
  unfold gsNil at e
  cases r with
  | nil => cases e; exact ⟨rfl, k σ S fun _ _ => rfl⟩
  | cons _ _ => cases e
theorem tdgs_cons {t : TG} {u : TGs} {g : FG} {r : FGs} {ix iy : List Nat} (ht : TDG K mg t ix g) (hu : TDGs K mg u iy r) : TDGs K mg (gCons t u) (ix ++ iy) (gsCons g r) := fun B F pi rho rho1 mu σ H vs ds Q S rl e k => by
  cases rl with
  | nil => cases e
  | @cons v vs d ds a rr =>
    have e' : (g d rho).bind (fun rho1 => r ds rho1) = some rho1 := e
    cases q : g d rho with
    | none => rw [q] at e'; cases e'
    | some rho2 =>
      rw [q] at e'
      exact ⟨v, vs, rfl, ht B F pi rho rho2 mu σ H v d _ S a q fun σ' S' w1 => hu B F pi rho2 rho1 mu σ' H vs ds Q S' rr e' fun σ2 S2 w2 => k σ2 S2 fun zs hz => (w2 zs fun i hi => hz i (List.mem_append_right _ hi)).trans (w1 zs fun i hi => hz i (List.mem_append_left _ hi))⟩
theorem tdg_tup {u : TGs} {r : FGs} {n : Nat} {ix : List Nat} (hu : TDGs K mg u ix r) : TDG K mg (L2.gTup K n u) ix (gTupD n r) := fun B F pi rho rho1 mu σ H v d Q S rp e k => by
  unfold gTupD at e
  split at e
  · split at e
    · rename_i ds hl
      cases rp with
      | tup h rl => exact ⟨_, _, rfl, Ext.sqT hid_le h, rl.length.trans hl, hu B F pi rho rho1 mu σ H _ ds Q S rl e k⟩
    · cases e
  · cases e
theorem tds_tgt {te : TE} {f : FE} {tg : TG} {g : FG} {ix : List Nat} (he : TD K mg W te f) (hg : TDG K mg tg ix g) : TDS K mg W (tAsg te tg) (sTgt f g) := by
  intro B F pi rho mu σ H Dn S h
  refine he.stm S h fun d mu1 v H1 S1 x1 r1 h1 => ?_
  cases e : g d rho with
  | none => rw [e] at h1; exact h1.elim
  | some rho1 =>
    rw [e] at h1
    exact hg B F pi rho rho1 mu1 σ H1 v d _ S1 r1 e fun σ' S' _ => h1 pi σ' H1 (PiExt.refl _) S' (Ext.refl _)

/-! ### what is walked -/
variable (K mg) in
/-- the iterator yields the items ds, while what Hh knows stands -/
def ItD (J : It) (ds : List D) (Hh : Hp) : Prop := ∀ (i : Nat) (H : Hp) (F : Addr → Bool) (pi : List (Option Addr)), Ext Hh (hid F pi H) → (∀ b, H b = none → hidB F pi b = false) →
  (ds.length ≤ i → J.stop i H) ∧ ∀ d, ds[i]? = some d → J.go i H ∧ ∀ x H', J.yld i H x H' → Ext H H' ∧ Rp K mg (hid F pi H') x d
variable (K mg W) in
def ContI (B : Hp) (F : Addr → Bool) (pi : List (Option Addr)) (rho : List Sl) (σ : L2.St) (H : Hp) (R : It → Hp → Prop) : Rs (List D) → Prop
  | .ok ds mu => ∀ J H', Sat K mg B F pi rho mu σ H' → Ext (hid F pi H) (hid F pi H') → ItD K mg J ds (hid F pi H') → R J H'
  | .err x mu => ∀ cls dd H', Sat K mg B F pi rho mu σ H' → Ext (hid F pi H) (hid F pi H') → RpX K mg (hid F pi H') cls dd x → W cls dd σ H'
  | .stuck => False
variable (K mg W) in
def TDI (t : TI) (f : List Sl → List D → Rs (List D)) : Prop := ∀ (B : Hp) (F : Addr → Bool) (pi : List (Option Addr)) (rho : List Sl) (mu : List D) (σ : L2.St) (H : Hp) (R : It → Hp → Prop),
  Sat K mg B F pi rho mu σ H → ContI K mg W B F pi rho σ H R (f rho mu) → t σ H R
theorem tds_for {wi : TI} {tg : TG} {tb : TS} {it : List Sl → List D → Rs (List D)} {g : FG} {body : FS} {ix : List Nat} (hi : TDI K mg W wi it) (hg : TDG K mg tg ix g) (hb : TDS K mg W tb body) : TDS K mg W (tFor wi tg tb) (sFor it g body) := by
  intro B F pi rho mu σ H Dn S h
  refine hi B F pi rho mu σ H _ S ?_
  unfold sFor at h
  cases e : it rho mu with
  | err x mu1 => rw [e] at h; exact fun c dd H' S' e' r => h pi c dd σ H' (PiExt.refl _) S' e' r
  | stuck => rw [e] at h; exact h
  | ok ds mu1 =>
    rw [e] at h
    intro J H1 S1 x1 hJ
    have h1 : Cont K mg W B F pi H Dn (loopL g body ds rho mu1) := h
    have h2 := Cont.up (PiExt.refl _) x1 h1
    refine ⟨fun i m σ' H' => m = ds.length - i ∧ i ≤ ds.length ∧ ∃ pi' rho' mu', PiExt pi pi' ∧ Sat K mg B F pi' rho' mu' σ' H' ∧ Ext (hid F pi H1) (hid F pi' H') ∧ Cont K mg W B F pi' H' Dn (loopL g body (ds.drop i) rho' mu'),
      ⟨ds.length, by simp, Nat.zero_le _, pi, rho, mu1, PiExt.refl _, S1, Ext.refl _, by rw [List.drop_zero]; exact h2⟩, ?_⟩
    rintro i m σ' H' ⟨rfl, hle, pi', rho', mu', p', S', x', c'⟩
    obtain ⟨hstop, hgo⟩ := hJ i H' F pi' x' fun b hb => S'.new_hid hb
    by_cases hlt : i < ds.length
    · right
      have ed : ds.drop i = ds[i] :: ds.drop (i + 1) := List.drop_eq_getElem_cons hlt
      rw [ed] at c'
      obtain ⟨g1, g2⟩ := hgo ds[i] (by simp [hlt])
      refine ⟨g1, fun σ2 H2 => ∃ m', m' < ds.length - i ∧ m' = ds.length - (i + 1) ∧ i + 1 ≤ ds.length ∧ ∃ pi2 rho2 mu2, PiExt pi pi2 ∧ Sat K mg B F pi2 rho2 mu2 σ2 H2 ∧ Ext (hid F pi H1) (hid F pi2 H2) ∧ Cont K mg W B F pi2 H2 Dn (loopL g body (ds.drop (i + 1)) rho2 mu2),
        fun σ2 H2 ⟨m', q1, q2⟩ => ⟨m', q1, q2⟩, fun xv H2 hy => ?_⟩
      obtain ⟨xe, rr⟩ := g2 xv H2 hy
      have S2 := S'.ext' xe
      have xx := S'.hext xe
      unfold loopL at c'
      cases eg : g ds[i] rho' with
      | none => rw [eg] at c'; exact c'.elim
      | some rho1 =>
        rw [eg] at c'
        simp only at c'
        refine hg B F pi' rho' rho1 mu' σ' H2 xv ds[i] _ S2 rr eg fun σ3 S3 _ => ?_
        have c2 := Cont.up (PiExt.refl _) xx c'
        refine hb B F pi' rho1 mu' σ3 H2 _ S3 ?_
        have fin : ∀ {r : List Sl} {m : List D}, Cont K mg W B F pi' H2 Dn (loopL g body (ds.drop (i + 1)) r m) → ∀ pi4 σ4 H4, PiExt pi' pi4 → Sat K mg B F pi4 r m σ4 H4 → Ext (hid F pi' H2) (hid F pi4 H4) →
            ∃ m', m' < ds.length - i ∧ m' = ds.length - (i + 1) ∧ i + 1 ≤ ds.length ∧ ∃ pi2 rho2 mu2, PiExt pi pi2 ∧ Sat K mg B F pi2 rho2 mu2 σ4 H4 ∧ Ext (hid F pi H1) (hid F pi2 H4) ∧ Cont K mg W B F pi2 H4 Dn (loopL g body (ds.drop (i + 1)) rho2 mu2) :=
          fun {r m} hc pi4 σ4 H4 q4 S4 x4 => ⟨ds.length - (i + 1), by omega, rfl, hlt, pi4, r, m, p'.trans q4, S4, (x'.trans xx).trans x4, Cont.up q4 x4 hc⟩
        cases eb : body rho1 mu' with
        | nx r m => rw [eb] at c2; exact fin c2
        | ct r m => rw [eb] at c2; exact fin c2
        | bk r m => rw [eb] at c2; exact c2
        | rt d m => rw [eb] at c2; exact c2
        | er z r m => rw [eb] at c2; exact c2
        | stuck => rw [eb] at c2; exact c2
    · left
      have ed : ds.drop i = [] := List.drop_eq_nil_of_le (by omega)
      rw [ed] at c'
      exact ⟨hstop (by omega), c' pi' σ' H' (PiExt.refl _) S' (Ext.refl _)⟩
theorem tds_while {tc : TT} {tb : TS} {c : FE} {body : FS} (n : Nat) (hc : TDT K mg W tc c) (hb : TDS K mg W tb body) : TDS K mg W (tWhile tc tb) (sWhile c body n) := by
  intro B F pi rho mu σ H Dn S h
  refine ⟨fun m σ' H' => ∃ pi' rho' mu', PiExt pi pi' ∧ Sat K mg B F pi' rho' mu' σ' H' ∧ Ext (hid F pi H) (hid F pi' H') ∧ Cont K mg W B F pi' H' Dn (sWhile c body m rho' mu'), ⟨n, pi, rho, mu, PiExt.refl _, S, Ext.refl _, h⟩, ?_⟩
  rintro m σ' H' ⟨pi', rho', mu', p', S', x', c'⟩
  cases m with
  | zero => exact c'.elim
  | succ m =>
    refine hc.stm S' c' (fun d mu n => ?_) fun b mu1 H1 S1 x1 h1 => ?_
    · cases d with
      | bl b => exact absurd rfl (n b)
      | _ => rfl
    · cases b with
      | false =>
        rw [if_neg Bool.false_ne_true]
        exact h1 pi' σ' H1 (PiExt.refl _) S1 (Ext.refl _)
      | true =>
        rw [if_pos rfl]
        refine ⟨fun σ2 H2 => ∃ m', m' < m + 1 ∧ ∃ pi2 rho2 mu2, PiExt pi pi2 ∧ Sat K mg B F pi2 rho2 mu2 σ2 H2 ∧ Ext (hid F pi H) (hid F pi2 H2) ∧ Cont K mg W B F pi2 H2 Dn (sWhile c body m' rho2 mu2), fun σ2 H2 q => q, ?_⟩
        refine hb B F pi' rho' mu1 σ' H1 _ S1 ?_
        have fin : ∀ {r : List Sl} {m2 : List D}, Cont K mg W B F pi' H1 Dn (sWhile c body m r m2) → ∀ pi4 σ4 H4, PiExt pi' pi4 → Sat K mg B F pi4 r m2 σ4 H4 → Ext (hid F pi' H1) (hid F pi4 H4) →
            ∃ m', m' < m + 1 ∧ ∃ pi2 rho2 mu2, PiExt pi pi2 ∧ Sat K mg B F pi2 rho2 mu2 σ4 H4 ∧ Ext (hid F pi H) (hid F pi2 H4) ∧ Cont K mg W B F pi2 H4 Dn (sWhile c body m' rho2 mu2) :=
          fun {r m2} hc pi4 σ4 H4 q4 S4 x4 => ⟨m, by omega, pi4, r, m2, p'.trans q4, S4, (x'.trans x1).trans x4, Cont.up q4 x4 hc⟩
        have c2 : Cont K mg W B F pi' H1 Dn (match body rho' mu1 with
          | .nx r m2 => sWhile c body m r m2
          | .ct r m2 => sWhile c body m r m2
          | .bk r m2 => .nx r m2
          | r => r) := h1
        cases eb : body rho' mu1 with
        | nx r m2 => rw [eb] at c2; exact fin c2
        | ct r m2 => rw [eb] at c2; exact fin c2
        | bk r m2 => rw [eb] at c2; exact c2
        | rt d m2 => rw [eb] at c2; exact c2
        | er z r m2 => rw [eb] at c2; exact c2
        | stuck => rw [eb] at c2; exact c2
end

/-! ### a def's body -/
def keepsAll (mu : List D) : Bool := mu.all fun d => match d with
  | .non => false
  | _ => true
/-- the mirror of a body: N slots in all -/
def mirB (N : Nat) (fs : FS) : Mir := fun rho mu => match fs (rho ++ List.replicate (N - rho.length) .no) mu with
  | .rt d m => if keepsAll (m.take mu.length) then .ok d (m.take mu.length) else .stuck
  | .nx _ m => if keepsAll (m.take mu.length) then .ok .non (m.take mu.length) else .stuck
  | .er x _ m => if keepsAll (m.take mu.length) then .err x (m.take mu.length) else .stuck
  | _ => .stuck
section
variable {K : PySem.W.Frag} {mg : Str → Option Value} {W : WX} {B : Hp} {F : Addr → Bool} {pi pi' : List (Option Addr)} {rho rho' : List Sl} {mu mu' : List D} {σ σ' : L2.St} {H H' : Hp} {Dn : Ends}
/-- the caller's state again, behind a body -/
theorem Sat.back (S : Sat K mg B F pi rho mu σ H) (S' : Sat K mg B F pi' rho' mu' σ' H') (p : PiExt pi pi') (x : Ext (hid F pi H) (hid F pi' H')) (hk : keepsAll (mu'.take mu.length) = true) :
    Sat K mg B F pi rho (mu'.take mu.length) σ H' ∧ Ext (hid F pi H) (hid F pi H') ∧ Ext (hid F pi' H') (hid F pi H') := by
  have hl : mu.length ≤ mu'.length := by rw [← S.len, ← S'.len]; exact p.len
  have at_ : ∀ (k : Nat) (a : Addr), pi[k]? = some (some a) → pi'[k]? = some (some a) := fun k a e => by
    rcases p.at_ k a e with q | q
    · exact q
    · have lt : k < mu.length := by rw [← S.len]; exact (List.getElem?_eq_some_iff.mp e).1
      have z := S'.frz k q
      have z2 : (mu'.take mu.length)[k]? = some .non := by rw [List.getElem?_take_of_lt lt]; exact z
      have z3 := List.all_eq_true.mp hk D.non (List.mem_of_getElem? z2)
      cases z3
  have sub : ∀ a, hidB F pi a = true → hidB F pi' a = true := fun a h => by
    unfold hidB at h ⊢
    rcases Bool.or_eq_true_iff.mp h with h | h
    · rw [h]; rfl
    · obtain ⟨k, hk⟩ := mem_pi.mp h
      rw [mem_pi.mpr ⟨k, at_ k a hk⟩]; simp
  have back : Ext (hid F pi' H') (hid F pi H') := fun a o e => by
    obtain ⟨h1, h2⟩ := hid_some e
    have h3 : hidB F pi a = false := by
      cases q : hidB F pi a with
      | false => rfl
      | true => rw [sub a q] at h1; cases h1
    rw [hid_of h3]; exact h2
  have ex := x.trans back
  refine ⟨⟨by rw [List.length_take]; have := S.len; omega, S.slen, S.inj, fun k a d h1 h2 => ?_, fun k h => ?_, S.forn, S'.ext, fun i d h => ?_, S.ref⟩, ex, back⟩
  · have lt : k < mu.length := by rw [← S.len]; exact (List.getElem?_eq_some_iff.mp h1).1
    rw [List.getElem?_take_of_lt lt] at h2
    obtain ⟨c1, c2, o, c3, c4⟩ := S'.own k a d (at_ k a h1) h2
    exact ⟨c1, c2, o, c3, c4.mono back⟩
  · have lt : k < mu.length := by rw [← S.len]; exact (List.getElem?_eq_some_iff.mp h).1
    rw [List.getElem?_take_of_lt lt]
    exact S'.frz k (p.no k h)
  · obtain ⟨v, h1, h2⟩ := S.dat i d h
    exact ⟨v, h1, h2.mono ex⟩
theorem start_sat {vs : List V} {N : List Str} (S : Sat K mg B F pi rho mu (vs.map some) H) (hl : vs.length ≤ N.length) : Sat K mg B F pi (rho ++ List.replicate (N.length - rho.length) .no) mu (L2.start N vs) H := by
  have e : rho.length = vs.length := by have := S.slen; rwa [List.length_map] at this
  have at1 : ∀ (i : Nat) s, (rho ++ List.replicate (N.length - rho.length) Sl.no)[i]? = some s → s = .no ∨ rho[i]? = some s := fun i s h => by
    by_cases hi : i < rho.length
    · rw [List.getElem?_append_left hi] at h; exact .inr h
    · rw [List.getElem?_append_right (by omega), List.getElem?_replicate] at h
      split at h
      · cases h; exact .inl rfl
      · cases h
  have at2 : ∀ (i : Nat), i < vs.length → (L2.start N vs)[i]? = (vs.map some)[i]? := fun i hi => by
    unfold L2.start; rw [List.getElem?_append_left (by rw [List.length_map]; exact hi)]
  refine ⟨S.len, ?_, S.inj, S.own, S.frz, S.forn, S.ext, fun i d h => ?_, fun i k h => ?_⟩
  · unfold L2.start; simp; omega
  · rcases at1 i _ h with q | q
    · cases q
    · rw [at2 i (by rw [← e]; exact (List.getElem?_eq_some_iff.mp q).1)]; exact S.dat i d q
  · rcases at1 i _ h with q | q
    · cases q
    · rw [at2 i (by rw [← e]; exact (List.getElem?_eq_some_iff.mp q).1)]; exact S.ref i k q
theorem body_of {N : List Str} {t : TS} {fs : FS} {vs : List V} {Q : VK} {E : XK} (ht : TDS K mg (fun cls d _ H => E cls d H) t fs) (hl : vs.length ≤ N.length) (h : SpM K mg (mirB N.length fs) vs H Q E) :
    t { nx := fun _ H' => Q .non H', rt := Q } (L2.start N vs) H := by
  obtain ⟨B, F, pi, rho, mu, S, h⟩ := h
  refine ht B F pi _ mu _ H _ (start_sat S hl) ?_
  unfold mirB at h
  cases e : fs (rho ++ List.replicate (N.length - rho.length) .no) mu with
  | nx r m =>
    rw [e] at h
    simp only at h
    split at h
    · rename_i hk
      intro pi' σ' H' p S' x
      obtain ⟨S2, x2, _⟩ := S.back S' p x hk
      exact h .non H' S2 x2 .non
    · exact h.elim
  | rt d m =>
    rw [e] at h
    simp only at h
    split at h
    · rename_i hk
      intro pi' rho' σ' v H' p S' x r
      obtain ⟨S2, x2, x3⟩ := S.back S' p x hk
      exact h v H' S2 x2 (r.mono x3)
    · exact h.elim
  | er z r m =>
    rw [e] at h
    simp only at h
    split at h
    · rename_i hk
      intro pi' cls dd σ' H' p S' x rx
      obtain ⟨S2, x2, x3⟩ := S.back S' p x hk
      obtain ⟨C, d, fs', a1, a2, a3, a4, a5⟩ := rx
      exact h cls dd H' S2 x2 ⟨C, d, fs', a1, a2, a3, x3 _ _ a4, a5.mono x3⟩
    · exact h.elim
  | bk r m => rw [e] at h; exact h.elim
  | ct r m => rw [e] at h; exact h.elim
  | stuck => rw [e] at h; exact h.elim
end
end DL

set_option maxHeartbeats 4000000
/-! DLg: what a def keeps, what a call may lean on. -/
namespace DL
open PySem PySem.Spec PyProof.Rows L2

/-- room, and no guard around -/
structure RoomG (k : Nat) (A : Around) : Prop where
  rm : Room k A
  gd : A.guards = some []
theorem RoomG.mono {j k : Nat} {A : Around} (r : RoomG k A) (h : j ≤ k) : RoomG j A := ⟨r.rm.mono h, r.gd⟩
theorem RoomG.deeper {k : Nat} {A : Around} (r : RoomG (k + 1) A) (env : Env) : RoomG k (A.deeper env) := ⟨r.rm.deeper env, r.gd⟩
theorem make_guards {A : Around} {C : Addr} {us : List Value} {kw : List (Str × Value)} : (A.under (.builtin "type.__call__" ⟨.ref C :: us, kw⟩)).guards = pushGuards [] A.guards := by
  first | rfl | simp [Around.under, Code.guards, Code.isGuard]
theorem RoomG.make {k : Nat} {A : Around} (r : RoomG (k + 1) A) (C : Addr) (us : List Value) (kw : List (Str × Value)) : RoomG k (A.under (.builtin "type.__call__" ⟨.ref C :: us, kw⟩)) :=
  ⟨r.rm.make C us kw, by rw [make_guards, r.gd]; rfl⟩
/-- what a body's rules need of where they stand -/
structure Ctx (X : Cx) (k : Nat) (W : WX) : Prop where
  calm : X.calm = true
  nd : X.N.Nodup
  room : RoomG k X.A
  takes : Takes X W
/-- .. and a block of statements -/
abbrev Own (X : Cx) : Prop := PassesOwn (model X.prog X.w) X.A X.env X.xe

/-! ### a def -/
structure FnG (P : Program) (w : World) (K : PySem.W.Frag) (mg : Str → Option Value) (base : Heap) (k : Nat) (f : Addr) (fd : FuncData) (ps : List Str) (m : Mir) : Prop where
  run : ∀ (A : Around) (outer : List Env) (s : Shared) (H : Hp) (args : Args) (us : List Value) (vs : List V) (Q : VK) (E : XK), RoomG k A → Env0 P w K mg base A outer s H → BindsTo s fd args (ps.zip us) → Vals vs us → vs.length = ps.length → SpM K mg m vs H Q E →
    codeAny (model P w) A (.call (.ref f) args) (CR (L2.CX P w) outer P w H s Q E) s
theorem FnG.mono {P : Program} {w : World} {K : PySem.W.Frag} {mg : Str → Option Value} {base : Heap} {j k : Nat} {f : Addr} {fd : FuncData} {ps : List Str} {m : Mir} (F : FnG P w K mg base j f fd ps m) (h : j ≤ k) : FnG P w K mg base k f fd ps m :=
  ⟨fun A outer s H args us vs Q E hr => F.run A outer s H args us vs Q E (hr.mono h)⟩
/-! judgements: a text and what it does to data -/
def JE (X : Cx) (W : WX) (e : Expr) (f : FE) : Prop := ∃ t, PE X e t ∧ TD X.K X.mg W t f
def JT (X : Cx) (W : WX) (e : Expr) (f : FE) : Prop := ∃ t, PT X e t ∧ TDT X.K X.mg W t f
def JA (X : Cx) (W : WX) (es : List Expr) (f : FA) : Prop := ∃ t, PA X es t ∧ TDA X.K X.mg W t f
def JS (X : Cx) (W : WX) (st : Stmt) (f : FS) : Prop := ∃ t, PS X st t ∧ TDS X.K X.mg W t f
def JSs (X : Cx) (W : WX) (sts : List Stmt) (f : FS) : Prop := ∃ t, PSs X sts t ∧ TDS X.K X.mg W t f
def JG (X : Cx) (e : Expr) (ix : List Nat) (g : FG) : Prop := ∃ t, PG X e t ∧ TDG X.K X.mg t ix g
def JGs (X : Cx) (es : List Expr) (ix : List Nat) (g : FGs) : Prop := ∃ t, PGs X es t ∧ TDGs X.K X.mg t ix g
def JI (X : Cx) (W : WX) (tg it : Expr) (f : FA) : Prop := ∃ t, PI X tg it t ∧ TDI X.K X.mg W t f
/-- what an exception of a def's body wishes -/
abbrev WB (E : XK) : WX := fun cls d _ H => E cls d H
/-- THE RULE of a def: its body's mirror is its mirror -/
theorem fn_g {P : Program} {w : World} {K : PySem.W.Frag} {mg : Str → Option Value} {base : Heap} {k : Nat} {f : Addr} {fd : FuncData} {x qual : Str} {params : Arguments} {body : List Stmt} {scope : Scope} {dvs : List V} {kws : List (Str × V)} {N ps : List Str} {fs : FS}
    (F : FunD K x qual params body scope dvs kws f fd) (S : FnScope N ps scope)
    (hbody : ∀ (cdv : Value) (A : Around) (outer : List Env) (s : Shared) (H : Hp) (E : XK), Ctx (cxOf (L2.CX P w) P w K mg base N qual scope f cdv A outer s H E) k (WB E) → Own (cxOf (L2.CX P w) P w K mg base N qual scope f cdv A outer s H E) →
      JSs (cxOf (L2.CX P w) P w K mg base N qual scope f cdv A outer s H E) (WB E) body fs) :
    FnG P w K mg base (k + 1) f fd ps (mirB N.length fs) := by
  obtain ⟨oc, od, dV, kV, doc, pm, an, cdv, ct, osl, rfl, lk, hcd, _, _⟩ := F.ex
  refine ⟨fun A outer s H args us vs Q E hr e0 hb r hl hsp => ?_⟩
  have KX : K.In s.heap := e0.mod.kin.keeps fun b o e => (e0.bs b o e).1
  have lim : s.heap.NoLimit := e0.mod.nolimit.keeps fun b o e => (e0.bs b o e).1
  have hkind : ∀ y ∈ ps.zip us, scope.names.lookup y.1 = some .local ∨ (scope.names.lookup y.1 = some .cell ∧ ((cellsFrom (s.heap.objs.size + 1) scope.names []).lookup y.1).isSome = true) := fun ⟨n, v⟩ hy => by
    rcases S.par n (List.of_mem_zip hy).1 with q | q
    · exact .inl q
    · exact .inr ⟨q, PySem.W.cellsFrom_some _ _ _ (.inl q)⟩
  refine codeAny_call_function hr.rm.depth (KX _ _ lk) rfl S.co S.gen rfl (PySem.W.codeRec_of KX hcd) (hb _ _ _ _ ?_)
  refine wpAny_newFunctionEnv_cells S.kind hkind fun env he s1 xx => ?_
  subst he
  refine ⟨lim.keeps xx.toInCall.keep, codeAny_func ?_⟩
  have hN : vs.length ≤ N.length := by
    have := congrArg List.length S.pre
    rw [List.length_take] at this
    omega
  have tk : Takes (cxOf (L2.CX P w) P w K mg base N qual scope f cdv A outer s H E) (WB E) := takes_of rfl rfl rfl rfl
  have pw : PassesOwn (model P w) (A.deeper (envOfC qual scope s.heap.objs.size f cdv)) (envOfC qual scope s.heap.objs.size f cdv) (cxOf (L2.CX P w) P w K mg base N qual scope f cdv A outer s H E).xe :=
    passes_of (X := cxOf (L2.CX P w) P w K mg base N qual scope f cdv A outer s H E) rfl
  obtain ⟨t, ht, hd⟩ := hbody cdv A outer s H E ⟨rfl, S.nd, hr.deeper _, tk⟩ pw
  have hq := body_of (N := N) (E := E) hd hN hsp
  have I : Inv (cxOf (L2.CX P w) P w K mg base N qual scope f cdv A outer s H E) [] (L2.start N vs) H s1 := inv_start S hr.rm.hd e0 hl r xx
  refine wpAny_mono (ht.run [] s1 (L2.start N vs) H _ I hq) (fun fl s' hs => ?_) fun e s' hs => hs
  have fin : ∀ {σ' : L2.St} {H' : Hp} {v : V} {u : Value}, Inv (cxOf (L2.CX P w) P w K mg base N qual scope f cdv A outer s H E) [] σ' H' s' → RelV v u → Q v H' → CE outer P w H s Q u s' :=
    fun {σ' H' v u} J rv q => ⟨v, H', J.os, J.bare, J.base, J.hok, rv, q⟩
  cases fl with
  | ret u =>
    obtain ⟨v, σ', H', J, rv, q⟩ := hs
    exact fin J rv q
  | next =>
    obtain ⟨σ', H', J, q⟩ := hs
    exact fin (v := V.non) (u := Value.none) J rfl q
  | brk =>
    obtain ⟨_, _, _, q⟩ := hs
    exact False.elim q
  | cont =>
    obtain ⟨_, _, _, q⟩ := hs
    exact False.elim q

/-! ### slots as values: a receiver, arguments -/
abbrev FR := List Sl → List D → Rs Sl
abbrev FL := List Sl → List D → Rs (List Sl)
def rVar (i : Nat) : FR := fun rho mu => match rho[i]? with
  | some (.dat d) => .ok (.dat d) mu
  | some (.own k) => .ok (.own k) mu
  | _ => .stuck
def rDat (f : FE) : FR := fun rho mu => (f rho mu).bind fun d mu1 => .ok (.dat d) mu1
def lNil : FL := fun _ mu => .ok [] mu
def lCons (f : FR) (r : FL) : FL := fun rho mu => (f rho mu).bind fun s mu1 => (r rho mu1).bind fun ss mu2 => .ok (s :: ss) mu2
def lStar (f : FE) (r : FL) : FL := fun rho mu => (f rho mu).bind fun a mu1 => match itemsD a with
  | some xs => (r rho mu1).bind fun ss mu2 => .ok (xs.map .dat ++ ss) mu2
  | none => .stuck
section
variable (K : PySem.W.Frag) (mg : Str → Option Value) (W : WX)
def ContR (B : Hp) (F : Addr → Bool) (pi : List (Option Addr)) (rho : List Sl) (σ : L2.St) (H : Hp) (Q : VK) : Rs Sl → Prop
  | .ok s mu => ∀ v H', Sat K mg B F pi rho mu σ H' → Ext (hid F pi H) (hid F pi H') → ArgR K mg F pi H' v s → Q v H'
  | .err x mu => ∀ cls dd H', Sat K mg B F pi rho mu σ H' → Ext (hid F pi H) (hid F pi H') → RpX K mg (hid F pi H') cls dd x → W cls dd σ H'
  | .stuck => False
def TDR (t : TE) (f : FR) : Prop := ∀ (B : Hp) (F : Addr → Bool) (pi : List (Option Addr)) (rho : List Sl) (mu : List D) (σ : L2.St) (H : Hp) (Q : VK),
  Sat K mg B F pi rho mu σ H → ContR K mg W B F pi rho σ H Q (f rho mu) → t σ H Q
def ContL (B : Hp) (F : Addr → Bool) (pi : List (Option Addr)) (rho : List Sl) (σ : L2.St) (H : Hp) (Q : List V → Hp → Prop) : Rs (List Sl) → Prop
  | .ok ss mu => ∀ vs H', Sat K mg B F pi rho mu σ H' → Ext (hid F pi H) (hid F pi H') → ArgsR K mg F pi H' vs ss → Q vs H'
  | .err x mu => ∀ cls dd H', Sat K mg B F pi rho mu σ H' → Ext (hid F pi H) (hid F pi H') → RpX K mg (hid F pi H') cls dd x → W cls dd σ H'
  | .stuck => False
def TDL (t : TA) (f : FL) : Prop := ∀ (B : Hp) (F : Addr → Bool) (pi : List (Option Addr)) (rho : List Sl) (mu : List D) (σ : L2.St) (H : Hp) (Q : List V → Hp → Prop),
  Sat K mg B F pi rho mu σ H → ContL K mg W B F pi rho σ H Q (f rho mu) → t σ H Q
end
section
variable {K : PySem.W.Frag} {mg : Str → Option Value} {W : WX} {B : Hp} {F : Addr → Bool} {pi pi1 : List (Option Addr)} {rho : List Sl} {mu mu' : List D} {σ : L2.St} {H H1 : Hp}
theorem ContL.up {Q : List V → Hp → Prop} (e : Ext (hid F pi H) (hid F pi H1)) : ∀ {r : Rs (List Sl)}, ContL K mg W B F pi rho σ H Q r → ContL K mg W B F pi rho σ H1 Q r
  | .ok _ _, h => fun v H' S e' r => h v H' S (e.trans e') r
  | .err _ _, h => fun c d H' S e' r => h c d H' S (e.trans e') r
  | .stuck, h => h
theorem tdr_var {i : Nat} : TDR K mg W (tVar i) (rVar i) := by
  intro B F pi rho mu σ H Q S h
  unfold rVar at h
  split at h
  · rename_i d e
    obtain ⟨v, h1, h2⟩ := S.dat i d e
    exact ⟨v, h1, h v H S (Ext.refl _) (.dat h2)⟩
  · rename_i k e
    obtain ⟨a, h1, h2⟩ := S.ref i k e
    exact ⟨_, h2, h _ H S (Ext.refl _) (.own h1)⟩
  · exact h.elim
theorem tdr_dat {t : TE} {f : FE} (ht : TD K mg W t f) : TDR K mg W t (rDat f) := by
  intro B F pi rho mu σ H Q S h
  refine ht B F pi rho mu σ H Q S ?_
  unfold rDat at h
  cases e : f rho mu with
  | ok d mu1 => rw [e] at h; exact fun v H' S' e' r => h v H' S' e' (.dat r)
  | err x mu1 => rw [e] at h; exact h
  | stuck => rw [e] at h; exact h
theorem TDR.bindL {t : TE} {f : FR} {k : Sl → List D → Rs (List Sl)} {Q : List V → Hp → Prop} {Q' : VK} (ht : TDR K mg W t f) (S : Sat K mg B F pi rho mu σ H) (h : ContL K mg W B F pi rho σ H Q ((f rho mu).bind k))
    (go : ∀ d mu1 v H1, Sat K mg B F pi rho mu1 σ H1 → Ext (hid F pi H) (hid F pi H1) → ArgR K mg F pi H1 v d → ContL K mg W B F pi rho σ H1 Q (k d mu1) → Q' v H1) : t σ H Q' := by
  refine ht B F pi rho mu σ H Q' S ?_
  cases e : f rho mu with
  | ok d mu1 => rw [e] at h; exact fun v H' S' e' r => go d mu1 v H' S' e' r (h.up e')
  | err x mu1 => rw [e] at h; exact h
  | stuck => rw [e] at h; exact h
theorem TD.bindL {t : TE} {f : FE} {k : D → List D → Rs (List Sl)} {Q : List V → Hp → Prop} {Q' : VK} (ht : TD K mg W t f) (S : Sat K mg B F pi rho mu σ H) (h : ContL K mg W B F pi rho σ H Q ((f rho mu).bind k))
    (go : ∀ d mu1 v H1, Sat K mg B F pi rho mu1 σ H1 → Ext (hid F pi H) (hid F pi H1) → Rp K mg (hid F pi H1) v d → ContL K mg W B F pi rho σ H1 Q (k d mu1) → Q' v H1) : t σ H Q' := by
  refine ht B F pi rho mu σ H Q' S ?_
  cases e : f rho mu with
  | ok d mu1 => rw [e] at h; exact fun v H' S' e' r => go d mu1 v H' S' e' r (h.up e')
  | err x mu1 => rw [e] at h; exact h
  | stuck => rw [e] at h; exact h
theorem TDL.bindL {t : TA} {f : FL} {k : List Sl → List D → Rs (List Sl)} {Q : List V → Hp → Prop} {Q' : List V → Hp → Prop} (ht : TDL K mg W t f) (S : Sat K mg B F pi rho mu σ H) (h : ContL K mg W B F pi rho σ H Q ((f rho mu).bind k))
    (go : ∀ d mu1 v H1, Sat K mg B F pi rho mu1 σ H1 → Ext (hid F pi H) (hid F pi H1) → ArgsR K mg F pi H1 v d → ContL K mg W B F pi rho σ H1 Q (k d mu1) → Q' v H1) : t σ H Q' := by
  refine ht B F pi rho mu σ H Q' S ?_
  cases e : f rho mu with
  | ok d mu1 => rw [e] at h; exact fun v H' S' e' r => go d mu1 v H' S' e' r (h.up e')
  | err x mu1 => rw [e] at h; exact h
  | stuck => rw [e] at h; exact h
theorem TDL.bindE {t : TA} {f : FL} {k : List Sl → List D → Rs D} {Q : VK} {Q' : List V → Hp → Prop} (ht : TDL K mg W t f) (S : Sat K mg B F pi rho mu σ H) (h : ContE K mg W B F pi rho σ H Q ((f rho mu).bind k))
    (go : ∀ d mu1 v H1, Sat K mg B F pi rho mu1 σ H1 → Ext (hid F pi H) (hid F pi H1) → ArgsR K mg F pi H1 v d → ContE K mg W B F pi rho σ H1 Q (k d mu1) → Q' v H1) : t σ H Q' := by
  refine ht B F pi rho mu σ H Q' S ?_
  cases e : f rho mu with
  | ok d mu1 => rw [e] at h; exact fun v H' S' e' r => go d mu1 v H' S' e' r (h.up e')
  | err x mu1 => rw [e] at h; exact h
  | stuck => rw [e] at h; exact h
theorem TDR.bindE {t : TE} {f : FR} {k : Sl → List D → Rs D} {Q : VK} {Q' : VK} (ht : TDR K mg W t f) (S : Sat K mg B F pi rho mu σ H) (h : ContE K mg W B F pi rho σ H Q ((f rho mu).bind k))
    (go : ∀ d mu1 v H1, Sat K mg B F pi rho mu1 σ H1 → Ext (hid F pi H) (hid F pi H1) → ArgR K mg F pi H1 v d → ContE K mg W B F pi rho σ H1 Q (k d mu1) → Q' v H1) : t σ H Q' := by
  refine ht B F pi rho mu σ H Q' S ?_
  cases e : f rho mu with
  | ok d mu1 => rw [e] at h; exact fun v H' S' e' r => go d mu1 v H' S' e' r (h.up e')
  | err x mu1 => rw [e] at h; exact h
  | stuck => rw [e] at h; exact h
theorem tdl_nil : TDL K mg W tNil lNil := fun B F pi rho mu σ H Q S h => h [] H S (Ext.refl _) .nil
theorem tdl_cons {te : TE} {tr : TA} {f : FR} {r : FL} (he : TDR K mg W te f) (hr : TDL K mg W tr r) : TDL K mg W (tCons te tr) (lCons f r) := by
  intro B F pi rho mu σ H Q S h
  refine TDR.bindL he S h fun d mu1 v H1 S1 x1 r1 h1 => ?_
  refine TDL.bindL hr S1 h1 fun ds mu2 vs H2 S2 x2 r2 h2 => ?_
  exact h2 _ H2 S2 (Ext.refl _) (.cons (r1.mono x2) r2)
theorem items_of {Hh : Hp} {v : V} {d : D} {ds : List D} (r : Rp K mg Hh v d) (e : itemsD d = some ds) : ∃ p xs, v = .ref p ∧ (SqT K Hh p xs ∨ SqL K Hh p xs) ∧ RpL K mg Hh xs ds := by
  cases r with
  | tup h rl => cases e; exact ⟨_, _, rfl, .inl h, rl⟩
  | lst h rl => cases e; exact ⟨_, _, rfl, .inr (SqL.of h), rl⟩
  | fro h rl => cases e; exact ⟨_, _, rfl, .inr h, rl⟩
  | _ => cases e
theorem sq_le {p : Addr} {xs : List V} (h : SqT K (hid F pi H) p xs ∨ SqL K (hid F pi H) p xs) : SqT K H p xs ∨ SqL K H p xs := by
  rcases h with h | h
  · exact .inl (Ext.sqT hid_le h)
  · exact .inr (Ext.sqL hid_le h)
theorem tdl_star {te : TE} {tr : TA} {f : FE} {r : FL} (he : TD K mg W te f) (hr : TDL K mg W tr r) : TDL K mg W (StX.tStar K te tr) (lStar f r) := by
  intro B F pi rho mu σ H Q S h
  refine TD.bindL he S h fun d mu1 v H1 S1 x1 r1 h1 => ?_
  cases e : itemsD d with
  | none => simp only [e] at h1; exact h1.elim
  | some xs =>
    simp only [e] at h1
    obtain ⟨p, us, q1, q2, q3⟩ := items_of r1 e
    refine ⟨p, us, q1, sq_le q2, ?_⟩
    refine TDL.bindL hr S1 h1 fun ds mu2 vs H2 S2 x2 r2 h2 => ?_
    exact h2 _ H2 S2 (Ext.refl _) ((ArgsR.ofL (q3.mono x2)).app r2)
theorem tda_star {te : TE} {tr : TA} {f : FE} {r : FA} (he : TD K mg W te f) (hr : TDA K mg W tr r) : TDA K mg W (StX.tStar K te tr) (aStar f r) := by
  intro B F pi rho mu σ H Q S h
  refine TD.bindA he S h fun d mu1 v H1 S1 x1 r1 h1 => ?_
  cases e : itemsD d with
  | none => simp only [e] at h1; exact h1.elim
  | some xs =>
    simp only [e] at h1
    obtain ⟨p, us, q1, q2, q3⟩ := items_of r1 e
    refine ⟨p, us, q1, sq_le q2, ?_⟩
    refine TDA.bindA hr S1 h1 fun ds mu2 vs H2 S2 x2 r2 h2 => ?_
    exact h2 _ H2 S2 (Ext.refl _) ((q3.mono x2).app r2)
end
def JR (X : Cx) (W : WX) (e : Expr) (f : FR) : Prop := ∃ t, PE X e t ∧ TDR X.K X.mg W t f
def JL (X : Cx) (W : WX) (es : List Expr) (f : FL) : Prop := ∃ t, PA X es t ∧ TDL X.K X.mg W t f
def JK (X : Cx) (W : WX) (ks : List Keyword) (f : FL) : Prop := ∃ t, PK X ks t ∧ TDL X.K X.mg W t f

/-! ### how a call's arguments are bound -/
/-- a parameter's value: a positional argument, a keyword's, a default -/
inductive Src where
  | p (i : Nat) | k (j : Nat) | d (v : V) (x : D)
def srcS (ss ts : List Sl) : Src → Sl
  | .p i => ss.getD i .no
  | .k j => ts.getD j .no
  | .d _ x => .dat x
def srcV (vs zs : List V) : Src → V
  | .p i => vs.getD i .non
  | .k j => zs.getD j .non
  | .d v _ => v
def Src.ok (K : PySem.W.Frag) (mg : Str → Option Value) (n m : Nat) : Src → Prop
  | .p i => i < n
  | .k j => j < m
  | .d v x => ∀ H, Rp K mg H v x
/-- a call of n positional arguments and keywords ks binds the parameters so -/
structure Bd (K : PySem.W.Frag) (mg : Str → Option Value) (fd : FuncData) (ps : List Str) (n : Nat) (ks : List Str) (srcs : List Src) : Prop where
  len : srcs.length = ps.length
  wf : ∀ s ∈ srcs, s.ok K mg n ks.length
  to : ∀ (s : Shared) (vs zs : List V) (us ws : List Value), K.In s.heap → Vals vs us → Vals zs ws → us.length = n → ws.length = ks.length → ∃ gs, BindsTo s fd ⟨us, ks.zip ws⟩ (ps.zip gs) ∧ Vals (srcs.map (srcV vs zs)) gs
section
variable {K : PySem.W.Frag} {mg : Str → Option Value} {F : Addr → Bool} {pi : List (Option Addr)} {H : Hp}
theorem ArgsR.at : ∀ {vs : List V} {ss : List Sl} {i : Nat}, ArgsR K mg F pi H vs ss → i < ss.length → ArgR K mg F pi H (vs.getD i .non) (ss.getD i .no)
  | _, _, i, .nil, h => absurd h (Nat.not_lt_zero i)
  | _, _, 0, .cons a _, _ => a
  | _, _, i + 1, .cons _ r, h => ArgsR.at (i := i) r (Nat.lt_of_succ_lt_succ h)
theorem bind_args {vs zs : List V} {ss ts : List Sl} (r : ArgsR K mg F pi H vs ss) (q : ArgsR K mg F pi H zs ts) : ∀ {srcs : List Src}, (∀ s ∈ srcs, s.ok K mg ss.length ts.length) → ArgsR K mg F pi H (srcs.map (srcV vs zs)) (srcs.map (srcS ss ts))
  | [], _ => .nil
  | s :: srcs, h => by
    refine .cons ?_ (bind_args r q fun x hx => h x (List.mem_cons_of_mem _ hx))
    have h0 := h s List.mem_cons_self
    cases s with
    | p i => exact r.at h0
    | k j => exact q.at h0
    | d v x => exact .dat (h0 _)
end

/-! ### what is called -/
/-- what the value u does when it is called with n positional arguments and the keywords ks -/
structure Cal (X : Cx) (W : WX) (u : Value) (ks : List Str) (c : List Sl → List Sl → List D → Rs D) : Prop where
  kp : PySem.W.keepIn X.K u = true
  run : ∀ (pins : List (Addr × Obj)) (s : Shared) (B : Hp) (F : Addr → Bool) (pi : List (Option Addr)) (rho : List Sl) (mu : List D) (σ : L2.St) (H : Hp) (Q : VK) (vs zs : List V) (us ws : List Value) (ss ts : List Sl),
    Inv X pins σ H s → Sat X.K X.mg B F pi rho mu σ H → Vals vs us → Vals zs ws → ArgsR X.K X.mg F pi H vs ss → ArgsR X.K X.mg F pi H zs ts → ContE X.K X.mg W B F pi rho σ H Q (c ss ts mu) →
    wpAny (model X.prog X.w) X.A (call u us (ks.zip ws)) (EP X pins σ Q) X.xe s
/-- a def's call -/
def cFn (m : Mir) (n l : Nat) (srcs : List Src) (ss ts : List Sl) (mu : List D) : Rs D :=
  if ss.length = n ∧ ts.length = l then callM m (srcs.map (srcS ss ts)) mu else .stuck
section
variable {X : Cx} {W : WX} {k j n : Nat} {f C : Addr} {fd : FuncData} {ps ks : List Str} {m : Mir} {srcs : List Src}
theorem ContE.at_ {K : PySem.W.Frag} {mg : Str → Option Value} {B : Hp} {F : Addr → Bool} {pi : List (Option Addr)} {rho : List Sl} {σ : L2.St} {H : Hp} {Q : VK} : ∀ {r : Rs D}, ContE K mg W B F pi rho σ H Q r → ContE K mg (fun cls dd _ H' => W cls dd σ H') B F pi rho σ H Q r
  | .ok _ _, h => h
  | .err _ _, h => h
  | .stuck, h => h
end
/-- what the def at f does when it is called with the keywords ks: from slots to data -/
structure FnK (P : Program) (w : World) (K : PySem.W.Frag) (mg : Str → Option Value) (base : Heap) (k : Nat) (f : Addr) (ks : List Str) (c : List Sl → List Sl → List D → Rs D) : Prop where
  run : ∀ (A : Around) (outer : List Env) (s : Shared) (H : Hp) (us ws : List Value) (vs zs : List V) (Q : VK) (E : XK) (B : Hp) (F : Addr → Bool) (pi : List (Option Addr)) (rho : List Sl) (mu : List D) (σ : L2.St) (ss ts : List Sl), RoomG k A → Env0 P w K mg base A outer s H →
    Vals vs us → Vals zs ws → Sat K mg B F pi rho mu σ H → ArgsR K mg F pi H vs ss → ArgsR K mg F pi H zs ts → ContE K mg (fun cls dd _ H' => E cls dd H') B F pi rho σ H Q (c ss ts mu) →
    codeAny (model P w) A (.call (.ref f) ⟨us, ks.zip ws⟩) (CR (L2.CX P w) outer P w H s Q E) s
theorem FnK.mono {P : Program} {w : World} {K : PySem.W.Frag} {mg : Str → Option Value} {base : Heap} {j k : Nat} {f : Addr} {ks : List Str} {c : List Sl → List Sl → List D → Rs D} (F : FnK P w K mg base j f ks c) (h : j ≤ k) : FnK P w K mg base k f ks c :=
  ⟨fun A outer s H us ws vs zs Q E B G pi rho mu σ ss ts hr => F.run A outer s H us ws vs zs Q E B G pi rho mu σ ss ts (hr.mono h)⟩
theorem FnG.k {P : Program} {w : World} {K : PySem.W.Frag} {mg : Str → Option Value} {base : Heap} {k n : Nat} {f : Addr} {fd : FuncData} {ps ks : List Str} {m : Mir} {srcs : List Src} (G : FnG P w K mg base k f fd ps m) (b : Bd K mg fd ps n ks srcs) :
    FnK P w K mg base k f ks (cFn m n ks.length srcs) := by
  refine ⟨fun A outer s H us ws vs zs Q E B F pi rho mu σ ss ts hr e0 rv rz S ra rt h => ?_⟩
  unfold cFn at h
  split at h
  · rename_i hl
    have l1 : us.length = n := by rw [← rv.length, ra.length]; exact hl.1
    have l2 : ws.length = ks.length := by rw [← rz.length, rt.length]; exact hl.2
    have KX : K.In s.heap := e0.mod.kin.keeps fun b o e => (e0.bs b o e).1
    obtain ⟨gs, hb, rg⟩ := b.to s vs zs us ws KX rv rz l1 l2
    have ar := bind_args ra rt (srcs := srcs) fun x hx => by rw [hl.1, hl.2]; exact b.wf x hx
    exact G.run A outer s H ⟨us, ks.zip ws⟩ gs _ Q E hr e0 hb rg (by rw [List.length_map]; exact b.len) (call_sp S ar h)
  · exact h.elim
section
variable {X : Cx} {W : WX} {k j n : Nat} {f C : Addr} {ks : List Str} {c : List Sl → List Sl → List D → Rs D}
theorem run_k {pins : List (Addr × Obj)} {σ : L2.St} {H : Hp} {s : Shared} {Q : VK} {us ws : List Value} {vs zs : List V} {E : XK} {B : Hp} {F : Addr → Bool} {pi : List (Option Addr)} {rho : List Sl} {mu : List D} {ss ts : List Sl} (G : FnK X.prog X.w X.K X.mg X.base j f ks c) (hr : RoomG j X.A) (hx : PassesAt (L2.CX X.prog X.w) X σ E)
    (I : Inv X pins σ H s) (S : Sat X.K X.mg B F pi rho mu σ H) (rv : Vals vs us) (rz : Vals zs ws) (ra : ArgsR X.K X.mg F pi H vs ss) (rt : ArgsR X.K X.mg F pi H zs ts) (h : ContE X.K X.mg (fun cls dd _ H' => E cls dd H') B F pi rho σ H Q (c ss ts mu)) :
    wpAny (model X.prog X.w) X.A (call (.ref f) us (ks.zip ws)) (EP X pins σ Q) X.xe s := by
  refine wpAny_call (codeAny_mono (G.run X.A X.stack s H us ws vs zs Q E B F pi rho mu σ ss ts hr I.env0 rv rz S ra rt h) fun r s' hq => ?_)
  cases r with
  | error e => exact hx pins H s e s' I hq
  | ok fl =>
    cases fl with
    | ret u => exact I.after hq
    | next => exact False.elim hq
    | brk => exact False.elim hq
    | cont => exact False.elim hq
theorem cal_fn (C : Ctx X k W) (kp : PySem.W.keepIn X.K (.ref f) = true) (G : FnK X.prog X.w X.K X.mg X.base j f ks c) (hj : j ≤ k) : Cal X W (.ref f) ks c :=
  ⟨kp, fun pins s B F pi rho mu σ H Q vs zs us ws ss ts I S rv rz ra rt h => run_k (E := WE W σ) G (C.room.mono hj) (passAt C.takes σ) I S rv rz ra rt h.at_⟩
end

/-! ### calls by a name -/
def eCall (c : List Sl → List Sl → List D → Rs D) (fa fk : FL) : FE := fun rho mu => (fa rho mu).bind fun ss mu1 => (fk rho mu1).bind fun ts mu2 => c ss ts mu2
section
variable {X : Cx} {W : WX} {u : Value} {ks : List Str} {c : List Sl → List Sl → List D → Rs D} {x : Str} {p pos : Pos} {e : Expr} {es : List Expr} {kws : List Keyword} {fa fk : FL}
/-- the data of a value that is read -/
def tX (X : Cx) (W : WX) (f : FE) : TE := fun σ H Q => ∃ B F pi rho mu, Sat X.K X.mg B F pi rho mu σ H ∧ ContE X.K X.mg W B F pi rho σ H Q (f rho mu)
theorem tx_td {f : FE} : TD X.K X.mg W (tX X W f) f := fun B F pi rho mu σ H Q S h => ⟨B, F, pi, rho, mu, S, h⟩
/-- an expression, told straight by its data -/
theorem je_of {f : FE} (h : ∀ (pins : List (Addr × Obj)) (s : Shared) (B : Hp) (F : Addr → Bool) (pi : List (Option Addr)) (rho : List Sl) (mu : List D) (σ : L2.St) (H : Hp) (Q : VK), Inv X pins σ H s → Sat X.K X.mg B F pi rho mu σ H → ContE X.K X.mg W B F pi rho σ H Q (f rho mu) →
    wpAny (model X.prog X.w) X.A (eval e X.env) (EP X pins σ Q) X.xe s) : JE X W e f :=
  ⟨tX X W f, ⟨fun pins s σ H Q I ⟨B, F, pi, rho, mu, S, hc⟩ => h pins s B F pi rho mu σ H Q I S hc⟩, tx_td⟩
theorem je_call (hm : X.mg x = some u) (hc : Cal X W u [] c) (ha : JL X W (e :: es) fa) (hg : Gl X x := by rfl) (hdb : (x == ("__debug__" : Str)) = false := by decide)
    (he : starEach (e :: es) X.env = (false, eval e X.env) :: starEach es X.env := by rfl) (hpl : (backTo pos (starEach es X.env)).any (·.1) = false := by rfl) : JE X W (.Call (.Name x p) (e :: es) [] pos) (eCall c fa lNil) := by
  obtain ⟨ta, pa, da⟩ := ha
  refine je_of fun pins s B F pi rho mu σ H Q I S h => ?_
  refine wpAny_Call_Name_kw (ld_glob I hg hm ?_ hdb)
  refine PySem.W.callWith_K (h₀ := X.base) I.ok.mod.kin hc.kp (pa.run pos pins s σ H (fun vs H1 => ∃ mu1 ss, Sat X.K X.mg B F pi rho mu1 σ H1 ∧ ArgsR X.K X.mg F pi H1 vs ss ∧ ContE X.K X.mg W B F pi rho σ H1 Q (c ss [] mu1)) I (TDL.bindE da S h fun ss mu1 vs H1 S1 x1 r1 h1 => ⟨mu1, ss, S1, r1, h1⟩) |> fun z => thn z fun us s1 ⟨vs, H1, I1, r, mu1, ss, S1, r1, h1⟩ => ⟨I1.kIn, ?_⟩) he hpl
  exact hc.run pins s1 B F pi rho mu1 σ H1 Q vs [] us [] ss [] I1 S1 r .nil r1 .nil h1
theorem je_call0 (hm : X.mg x = some u) (hc : Cal X W u [] c) (hg : Gl X x := by rfl) (hdb : (x == ("__debug__" : Str)) = false := by decide) : JE X W (.Call (.Name x p) [] [] pos) (eCall c lNil lNil) := by
  refine je_of fun pins s B F pi rho mu σ H Q I S h => ?_
  refine wpAny_Call_Name_kw (ld_glob I hg hm ?_ hdb)
  exact PySem.W.callWith_K0 I.kIn hc.kp (hc.run pins s B F pi rho mu σ H Q [] [] [] [] [] [] I S .nil .nil .nil .nil h)
theorem je_callK (hm : X.mg x = some u) (hc : Cal X W u ks c) (ha : JL X W (e :: es) fa) (hk : JK X W kws fk) (hall : (backToKw pos (keywordEach kws X.env)).all (·.1.isSome) = true := by rfl) (hks : (backToKw pos (keywordEach kws X.env)).filterMap (·.1) = ks := by rfl)
    (hg : Gl X x := by rfl) (hdb : (x == ("__debug__" : Str)) = false := by decide) (he : starEach (e :: es) X.env = (false, eval e X.env) :: starEach es X.env := by rfl)
    (hpl : ((backTo pos (starEach (e :: es) X.env)).any (·.1) || (backToKw pos (keywordEach kws X.env)).any (·.1.isNone)) = false := by rfl) : JE X W (.Call (.Name x p) (e :: es) kws pos) (eCall c fa fk) := by
  obtain ⟨ta, pa, da⟩ := ha
  obtain ⟨tk, pk, dk⟩ := hk
  refine je_of fun pins s B F pi rho mu σ H Q I S h => ?_
  refine wpAny_Call_Name_kw (ld_glob I hg hm ?_ hdb)
  refine PySem.W.callWith_KW (h₀ := X.base) I.ok.mod.kin hc.kp hall (thn (pa.run pos pins s σ H (fun vs H1 => ∃ mu1 ss, Sat X.K X.mg B F pi rho mu1 σ H1 ∧ ArgsR X.K X.mg F pi H1 vs ss ∧ ContE X.K X.mg W B F pi rho σ H1 Q ((fk rho mu1).bind fun ts mu2 => c ss ts mu2)) I
    (TDL.bindE da S h fun ss mu1 vs H1 S1 x1 r1 h1 => ⟨mu1, ss, S1, r1, h1⟩)) fun us s1 ⟨vs, H1, I1, r, mu1, ss, S1, r1, h1⟩ => ?_) hpl he
  refine thn (pk.run pos pins s1 σ H1 (fun zs H2 => ∃ mu2 ts, Sat X.K X.mg B F pi rho mu2 σ H2 ∧ ArgsR X.K X.mg F pi H2 vs ss ∧ ArgsR X.K X.mg F pi H2 zs ts ∧ ContE X.K X.mg W B F pi rho σ H2 Q (c ss ts mu2)) I1
    (TDL.bindE dk S1 h1 fun ts mu2 zs H2 S2 x2 r2 h2 => ⟨mu2, ts, S2, r1.mono x2, r2, h2⟩)) fun ws s2 ⟨zs, H2, I2, rz, mu2, ts, S2, r1', r2, h2⟩ => ⟨I2.kIn, ?_⟩
  rw [hks]
  exact hc.run pins s2 B F pi rho mu2 σ H2 Q vs zs us ws ss ts I2 S2 r rz r1' r2 h2
theorem je_callK0 (hm : X.mg x = some u) (hc : Cal X W u ks c) (hk : JK X W kws fk) (hall : (backToKw pos (keywordEach kws X.env)).all (·.1.isSome) = true := by rfl) (hks : (backToKw pos (keywordEach kws X.env)).filterMap (·.1) = ks := by rfl)
    (hg : Gl X x := by rfl) (hdb : (x == ("__debug__" : Str)) = false := by decide)
    (hpl : ((backTo pos (starEach [] X.env)).any (·.1) || (backToKw pos (keywordEach kws X.env)).any (·.1.isNone)) = false := by rfl) : JE X W (.Call (.Name x p) [] kws pos) (eCall c lNil fk) := by
  obtain ⟨tk, pk, dk⟩ := hk
  refine je_of fun pins s B F pi rho mu σ H Q I S h => ?_
  refine wpAny_Call_Name_kw (ld_glob I hg hm ?_ hdb)
  refine PySem.W.callWith_KW0 (h₀ := X.base) I.ok.mod.kin hc.kp hall ?_ hpl
  have h : ContE X.K X.mg W B F pi rho σ H Q ((fk rho mu).bind fun ts mu2 => c [] ts mu2) := h
  refine thn (pk.run pos pins s σ H (fun zs H2 => ∃ mu2 ts, Sat X.K X.mg B F pi rho mu2 σ H2 ∧ ArgsR X.K X.mg F pi H2 zs ts ∧ ContE X.K X.mg W B F pi rho σ H2 Q (c [] ts mu2)) I
    (TDL.bindE dk S h fun ts mu2 zs H2 S2 x2 r2 h2 => ⟨mu2, ts, S2, r2, h2⟩)) fun ws s2 ⟨zs, H2, I2, rz, mu2, ts, S2, r2, h2⟩ => ⟨I2.kIn, ?_⟩
  rw [hks]
  exact hc.run pins s2 B F pi rho mu2 σ H2 Q [] zs [] ws [] ts I2 S2 .nil rz .nil r2 h2
/-- f(e, .., *y) -/
theorem je_callS2 (hm : X.mg x = some u) (hc : Cal X W u [] c) (ha : JL X W (e :: es) fa) (hg : Gl X x := by rfl) (hdb : (x == ("__debug__" : Str)) = false := by decide)
    (he : starEach (e :: es) X.env = (false, eval e X.env) :: starEach es X.env := by rfl) (hst : (backTo pos (starEach es X.env)).any (·.1) = true := by rfl) : JE X W (.Call (.Name x p) (e :: es) [] pos) (eCall c fa lNil) := by
  obtain ⟨ta, pa, da⟩ := ha
  refine je_of fun pins s B F pi rho mu σ H Q I S h => ?_
  refine wpAny_Call_Name_kw (ld_glob I hg hm ?_ hdb)
  refine PySem.W.callWith_S2 (h₀ := X.base) I.ok.mod.kin hc.kp (pa.run pos pins s σ H (fun vs H1 => ∃ mu1 ss, Sat X.K X.mg B F pi rho mu1 σ H1 ∧ ArgsR X.K X.mg F pi H1 vs ss ∧ ContE X.K X.mg W B F pi rho σ H1 Q (c ss [] mu1)) I (TDL.bindE da S h fun ss mu1 vs H1 S1 x1 r1 h1 => ⟨mu1, ss, S1, r1, h1⟩) |> fun z => thn z fun us s1 ⟨vs, H1, I1, r, mu1, ss, S1, r1, h1⟩ => ⟨I1.kIn, ?_⟩) he hst
  exact hc.run pins s1 B F pi rho mu1 σ H1 Q vs [] us [] ss [] I1 S1 r .nil r1 .nil h1
end
end DL

set_option maxHeartbeats 4000000
/-! DLh: expressions: texts and what they do to data. -/
namespace DL
open PySem PySem.Spec PyProof.Rows L2
section
variable {X : Cx} {W : WX} {k : Nat}
/-! names, constants -/
theorem je_var (i : Nat) {x : Str} {pos : Pos} (hN : X.N[i]? = some x := by rfl) (hv : Vis X.env.scope x := by first | exact Or.inl rfl | exact Or.inr (Or.inl rfl) | exact Or.inr (Or.inr rfl)) (hd : (x == ("__debug__" : Str)) = false := by decide)
    (hcd : (x == ("__classdict__" : Str)) = false := by decide) : JE X W (.Name x pos) (eVar i) := ⟨_, pe_var hN hv hd hcd, td_var⟩
theorem jr_var (i : Nat) {x : Str} {pos : Pos} (hN : X.N[i]? = some x := by rfl) (hv : Vis X.env.scope x := by first | exact Or.inl rfl | exact Or.inr (Or.inl rfl) | exact Or.inr (Or.inr rfl)) (hd : (x == ("__debug__" : Str)) = false := by decide)
    (hcd : (x == ("__classdict__" : Str)) = false := by decide) : JR X W (.Name x pos) (rVar i) := ⟨_, pe_var hN hv hd hcd, tdr_var⟩
theorem jr_dat {e : Expr} {f : FE} (h : JE X W e f) : JR X W e (rDat f) := let ⟨_, p, d⟩ := h; ⟨_, p, tdr_dat d⟩
theorem je_int {i : Int} {j : Nat} {pos : Pos} : JE X W (.Constant (.int i) j pos) (eC (.int i)) := ⟨_, pe_int, td_c fun _ => .int i⟩
theorem je_bl {b : Bool} {j : Nat} {pos : Pos} : JE X W (.Constant (.bool b) j pos) (eC (.bl b)) := ⟨_, pe_bl, td_c fun _ => .bl b⟩
theorem je_str {x : Str} {j : Nat} {pos : Pos} : JE X W (.Constant (.str x) j pos) (eC (.str x)) := ⟨_, pe_str, td_c fun _ => .str x⟩
theorem je_non {j : Nat} {pos : Pos} : JE X W (.Constant .none j pos) (eC .non) := ⟨_, pe_non, td_c fun _ => .non⟩
/-- a module's name that stands for data -/
def GD (K : PySem.W.Frag) (mg : Str → Option Value) (x : Str) (d : D) : Prop := ∃ v u, mg x = some u ∧ RelV v u ∧ ∀ H, Rp K mg H v d
theorem je_glob {x : Str} {d : D} {pos : Pos} (hm : GD X.K X.mg x d) (hg : Gl X x := by rfl) (hd : (x == ("__debug__" : Str)) = false := by decide) : JE X W (.Name x pos) (eC d) := by
  obtain ⟨v, u, h1, h2, h3⟩ := hm
  exact ⟨_, pe_glob hg h1 h2 hd, td_c h3⟩
/-! operators -/
theorem je_op {op : Operator} {a b : Expr} {f f' : FE} {r : R2} {g : D → D → Option D} {pos : Pos} (ho : OpR X (binaryOp op) r) (hr : RD2 X.K X.mg r g) (ha : JE X W a f) (hb : JE X W b f') : JE X W (.BinOp a op b pos) (e2 g f f') :=
  let ⟨_, p, d⟩ := ha; let ⟨_, q, d'⟩ := hb; ⟨_, pe_op ho p q, td_op d d' hr⟩
section
variable {a b c : Expr} {f f' f'' : FE} {pos : Pos}
theorem je_add (ha : JE X W a f) (hb : JE X W b f') : JE X W (.BinOp a .Add b pos) (e2 gAdd f f') := je_op op_addU rd_add ha hb
theorem je_sub (ha : JE X W a f) (hb : JE X W b f') : JE X W (.BinOp a .Sub b pos) (e2 gSub f f') := je_op op_sub rd_sub ha hb
theorem je_mul (ha : JE X W a f) (hb : JE X W b f') : JE X W (.BinOp a .Mult b pos) (e2 gMul f f') := je_op op_mulU rd_mul ha hb
theorem je_fdiv (ha : JE X W a f) (hb : JE X W b f') : JE X W (.BinOp a .FloorDiv b pos) (e2 gFdiv f f') := je_op op_fdivN rd_fdiv ha hb
theorem je_mod (ha : JE X W a f) (hb : JE X W b f') : JE X W (.BinOp a .Mod b pos) (e2 gMod f f') := je_op op_modN rd_mod ha hb
theorem je_pow (ha : JE X W a f) (hb : JE X W b f') : JE X W (.BinOp a .Pow b pos) (e2 gPow f f') := je_op op_pow rd_pow ha hb
theorem je_neg (ha : JE X W a f) : JE X W (.UnaryOp .USub a pos) (e1 gNeg f) := let ⟨_, p, d⟩ := ha; ⟨_, pe_un un_neg p, td_un d rd_neg⟩
/-! comparisons -/
theorem je_cmp {op : CmpOp} {r : R2} {g : D → D → Option D} (ho : OpR X (compareOp op) r) (hr : RD2 X.K X.mg r g) (ha : JE X W a f) (hb : JE X W b f') (hm : behindInMarks op b = false) : JE X W (.Compare a [op] [b] pos) (e2 g f f') :=
  let ⟨_, p, d⟩ := ha; let ⟨_, q, d'⟩ := hb; ⟨_, pe_cmpR ho p q hm, td_op d d' hr⟩
theorem jt_cmp {op : CmpOp} {r : R2} {g : D → D → Option D} (ho : OpR X (compareOp op) r) (hr : RD2 X.K X.mg r g) (ha : JE X W a f) (hb : JE X W b f') (hm : behindInMarks op b = false) : JT X W (.Compare a [op] [b] pos) (e2 g f f') :=
  let ⟨_, p, d⟩ := ha; let ⟨_, q, d'⟩ := hb; ⟨_, pt_cmpR ho p q hm, tdt_test (td_op d d' hr)⟩
theorem je_lt (ha : JE X W a f) (hb : JE X W b f') : JE X W (.Compare a [.Lt] [b] pos) (e2 gLt f f') := je_cmp op_ltU rd_lt ha hb (nomark b)
theorem jt_lt (ha : JE X W a f) (hb : JE X W b f') : JT X W (.Compare a [.Lt] [b] pos) (e2 gLt f f') := jt_cmp op_ltU rd_lt ha hb (nomark b)
theorem je_gt (ha : JE X W a f) (hb : JE X W b f') : JE X W (.Compare a [.Gt] [b] pos) (e2 gGt f f') := je_cmp op_gt rd_gt ha hb (nomark b)
theorem jt_gt (ha : JE X W a f) (hb : JE X W b f') : JT X W (.Compare a [.Gt] [b] pos) (e2 gGt f f') := jt_cmp op_gt rd_gt ha hb (nomark b)
theorem je_le (ha : JE X W a f) (hb : JE X W b f') : JE X W (.Compare a [.LtE] [b] pos) (e2 gLe f f') := je_cmp op_le rd_le ha hb (nomark b)
theorem jt_le (ha : JE X W a f) (hb : JE X W b f') : JT X W (.Compare a [.LtE] [b] pos) (e2 gLe f f') := jt_cmp op_le rd_le ha hb (nomark b)
theorem je_ge (ha : JE X W a f) (hb : JE X W b f') : JE X W (.Compare a [.GtE] [b] pos) (e2 gGe f f') := je_cmp op_ge rd_ge ha hb (nomark b)
theorem jt_ge (ha : JE X W a f) (hb : JE X W b f') : JT X W (.Compare a [.GtE] [b] pos) (e2 gGe f f') := jt_cmp op_ge rd_ge ha hb (nomark b)
theorem Ctx.u64 (C : Ctx X k W) : X.A.units + 64 < cLine := C.room.rm.units
theorem Ctx.u65 (C : Ctx X k W) : X.A.units + 65 < cLine := by have := C.room.rm.un; omega
theorem je_eq (C : Ctx X k W) (ha : JE X W a f) (hb : JE X W b f') : JE X W (.Compare a [.Eq] [b] pos) (e2 gEq f f') := je_cmp (op_eqD C.u64) rd_eq ha hb (nomark b)
theorem jt_eq (C : Ctx X k W) (ha : JE X W a f) (hb : JE X W b f') : JT X W (.Compare a [.Eq] [b] pos) (e2 gEq f f') := jt_cmp (op_eqD C.u64) rd_eq ha hb (nomark b)
theorem je_ne (C : Ctx X k W) (ha : JE X W a f) (hb : JE X W b f') : JE X W (.Compare a [.NotEq] [b] pos) (e2 gNe f f') := je_cmp (op_neD C.u64) rd_ne ha hb (nomark b)
theorem jt_ne (C : Ctx X k W) (ha : JE X W a f) (hb : JE X W b f') : JT X W (.Compare a [.NotEq] [b] pos) (e2 gNe f f') := jt_cmp (op_neD C.u64) rd_ne ha hb (nomark b)
theorem je_is (ha : JE X W a f) (hb : JE X W b f') : JE X W (.Compare a [.Is] [b] pos) (e2 gIs f f') := je_cmp op_isN rd_is ha hb (nomark b)
theorem jt_is (ha : JE X W a f) (hb : JE X W b f') : JT X W (.Compare a [.Is] [b] pos) (e2 gIs f f') := jt_cmp op_isN rd_is ha hb (nomark b)
theorem je_isNot (ha : JE X W a f) (hb : JE X W b f') : JE X W (.Compare a [.IsNot] [b] pos) (e2 gIsNot f f') := je_cmp op_notN rd_isNot ha hb (nomark b)
theorem jt_isNot (ha : JE X W a f) (hb : JE X W b f') : JT X W (.Compare a [.IsNot] [b] pos) (e2 gIsNot f f') := jt_cmp op_notN rd_isNot ha hb (nomark b)
theorem je_in (C : Ctx X k W) (ha : JE X W a f) (hb : JE X W b f') (hm : behindInMarks .In b = false := by rfl) : JE X W (.Compare a [.In] [b] pos) (e2 gIn f f') := je_cmp (op_inU C.u65) rd_in ha hb hm
theorem jt_in (C : Ctx X k W) (ha : JE X W a f) (hb : JE X W b f') (hm : behindInMarks .In b = false := by rfl) : JT X W (.Compare a [.In] [b] pos) (e2 gIn f f') := jt_cmp (op_inU C.u65) rd_in ha hb hm
theorem je_notIn (C : Ctx X k W) (ha : JE X W a f) (hb : JE X W b f') (hm : behindInMarks .NotIn b = false := by rfl) : JE X W (.Compare a [.NotIn] [b] pos) (e2 gNotIn f f') := je_cmp (op_notInU C.u65) rd_notIn ha hb hm
theorem jt_notIn (C : Ctx X k W) (ha : JE X W a f) (hb : JE X W b f') (hm : behindInMarks .NotIn b = false := by rfl) : JT X W (.Compare a [.NotIn] [b] pos) (e2 gNotIn f f') := jt_cmp (op_notInU C.u65) rd_notIn ha hb hm
/-- a <= b <= c and its like -/
theorem je_chain {op op' : CmpOp} {r r' : R2} {g g' : D → D → Option D} (ho : OpR X (compareOp op) r) (ho' : OpR X (compareOp op') r') (hr : RD2 X.K X.mg r g) (hr' : RD2 X.K X.mg r' g') (ha : JE X W a f) (hb : JE X W b f') (hc : JE X W c f'')
    (hm : lastMarks [op, op'] [b, c] = false) : JE X W (.Compare a [op, op'] [b, c] pos) (eChain g g' f f' f'') :=
  let ⟨_, p, d⟩ := ha; let ⟨_, q, d'⟩ := hb; let ⟨_, q2, d2⟩ := hc; ⟨_, pe_chain ho ho' p q q2 hm, td_chain d d' d2 hr hr'⟩
theorem jt_chain {op op' : CmpOp} {r r' : R2} {g g' : D → D → Option D} (ho : OpR X (compareOp op) r) (ho' : OpR X (compareOp op') r') (hr : RD2 X.K X.mg r g) (hr' : RD2 X.K X.mg r' g') (ha : JE X W a f) (hb : JE X W b f') (hc : JE X W c f'')
    (hm : lastMarks [op, op'] [b, c] = false) : JT X W (.Compare a [op, op'] [b, c] pos) (eChain g g' f f' f'') :=
  let ⟨_, p, d⟩ := ha; let ⟨_, q, d'⟩ := hb; let ⟨_, q2, d2⟩ := hc; ⟨_, L2.pt_chain ho ho' p q q2 hm, tdt_test (td_chain d d' d2 hr hr')⟩
theorem je_lele (ha : JE X W a f) (hb : JE X W b f') (hc : JE X W c f'') : JE X W (.Compare a [.LtE, .LtE] [b, c] pos) (eChain gLe gLe f f' f'') := je_chain op_le op_le rd_le rd_le ha hb hc (nomark c)
theorem jt_lele (ha : JE X W a f) (hb : JE X W b f') (hc : JE X W c f'') : JT X W (.Compare a [.LtE, .LtE] [b, c] pos) (eChain gLe gLe f f' f'') := jt_chain op_le op_le rd_le rd_le ha hb hc (nomark c)
theorem je_lelt (ha : JE X W a f) (hb : JE X W b f') (hc : JE X W c f'') : JE X W (.Compare a [.LtE, .Lt] [b, c] pos) (eChain gLe gLt f f' f'') := je_chain op_le op_ltU rd_le rd_lt ha hb hc (nomark c)
theorem jt_lelt (ha : JE X W a f) (hb : JE X W b f') (hc : JE X W c f'') : JT X W (.Compare a [.LtE, .Lt] [b, c] pos) (eChain gLe gLt f f' f'') := jt_chain op_le op_ltU rd_le rd_lt ha hb hc (nomark c)
/-! and, or, not, if -/
def JW (X : Cx) (W : WX) (e : Expr) (f : FE) : Prop := ∃ t, PW X e t ∧ TDT X.K X.mg W t f
theorem JW.jt {e : Expr} (h : JW X W e f) : JT X W e f := let ⟨_, p, d⟩ := h; ⟨_, p.pt, d⟩
variable {rest : List Expr}
theorem jw_and1 (ha : JT X W a f) : JW X W (.BoolOp .And [a] pos) f := let ⟨_, p, d⟩ := ha; ⟨_, pw_and1 p, d⟩
theorem jw_or1 (ha : JT X W a f) : JW X W (.BoolOp .Or [a] pos) f := let ⟨_, p, d⟩ := ha; ⟨_, pw_or1 p, d⟩
theorem jw_and (ha : JT X W a f) (hb : JW X W (.BoolOp .And (b :: rest) pos) f') : JW X W (.BoolOp .And (a :: b :: rest) pos) (eAnd f f') := let ⟨_, p, d⟩ := ha; let ⟨_, q, d'⟩ := hb; ⟨_, pw_and p q, tdt_and d d'⟩
theorem jw_or (ha : JT X W a f) (hb : JW X W (.BoolOp .Or (b :: rest) pos) f') : JW X W (.BoolOp .Or (a :: b :: rest) pos) (eOr f f') := let ⟨_, p, d⟩ := ha; let ⟨_, q, d'⟩ := hb; ⟨_, pw_or p q, tdt_or d d'⟩
theorem jt_not (ha : JT X W a f) : JT X W (.UnaryOp .Not a pos) (eNot f) := let ⟨_, p, d⟩ := ha; ⟨_, pt_not p, tdt_not d⟩
theorem je_one {op : BoolOp} (ha : JE X W a f) : JE X W (.BoolOp op [a] pos) f := let ⟨_, p, d⟩ := ha; ⟨_, pe_one p, d⟩
theorem je_and (ha : JE X W a f) (hb : JE X W (.BoolOp .And (b :: rest) pos) f') : JE X W (.BoolOp .And (a :: b :: rest) pos) (eAnd f f') := let ⟨_, p, d⟩ := ha; let ⟨_, q, d'⟩ := hb; ⟨_, pe_and p q, td_andV d d'⟩
theorem je_or (ha : JE X W a f) (hb : JE X W (.BoolOp .Or (b :: rest) pos) f') : JE X W (.BoolOp .Or (a :: b :: rest) pos) (eOr f f') := let ⟨_, p, d⟩ := ha; let ⟨_, q, d'⟩ := hb; ⟨_, pe_or p q, td_orV d d'⟩
theorem je_not (ha : JE X W a f) : JE X W (.UnaryOp .Not a pos) (eNot f) := let ⟨_, p, d⟩ := ha; ⟨_, pe_not p, td_notV d⟩
theorem je_if (hc : JT X W c f'') (ha : JE X W a f) (hb : JE X W b f') : JE X W (.IfExp c a b pos) (eIf f'' f f') := let ⟨_, p, d⟩ := ha; let ⟨_, q, d'⟩ := hb; let ⟨_, q2, d2⟩ := hc; ⟨_, pe_ifExp q2 p q, td_if d2 d d'⟩
/-- a test whose value is a bool -/
theorem jt_val {e : Expr} (h : JE X W e f) (he : ∀ whole, isTrue e X.env whole = (do let v ← whole; standAt e.pos; holding [v] (truthy v)) := by intro _; rfl) : JT X W e f := let ⟨_, p, d⟩ := h; ⟨_, pt_val p he, tdt_B d⟩
end
/-! argument lists, displays -/
section
variable {a b e : Expr} {es : List Expr} {f f' : FE} {fr : FA} {pos : Pos}
theorem ja_nil : JA X W [] aNil := ⟨_, pa_nil, tda_nil⟩
theorem ja_cons (ha : JE X W e f) (hr : JA X W es fr) (hs : starEach (e :: es) X.env = (false, eval e X.env) :: starEach es X.env := by rfl) : JA X W (e :: es) (aCons f fr) := let ⟨_, p, d⟩ := ha; let ⟨_, q, d'⟩ := hr; ⟨_, pa_cons p q hs, tda_cons d d'⟩
theorem ja_star {p : Pos} (ha : JE X W e f) (hr : JA X W es fr) (hs : starEach (.Starred e p :: es) X.env = (true, eval e X.env) :: starEach es X.env := by rfl) : JA X W (.Starred e p :: es) (aStar f fr) := let ⟨_, p, d⟩ := ha; let ⟨_, q, d'⟩ := hr; ⟨_, StX.pa_star p q hs, tda_star d d'⟩
theorem je_tup {x1 : Nat} (h : JA X W es fr) : JE X W (.Tuple es x1 pos) (eA gTup fr) := let ⟨_, p, d⟩ := h; ⟨_, pe_tup p, td_tup d⟩
theorem je_lst (h : JA X W es fr) : JE X W (.List es pos) (eA gLst fr) := let ⟨_, p, d⟩ := h; ⟨_, pe_lst p, td_lst d⟩
theorem jl_nil : JL X W [] lNil := ⟨_, pa_nil, tdl_nil⟩
theorem jl_cons {r : FR} {l : FL} (ha : JR X W e r) (hr : JL X W es l) (hs : starEach (e :: es) X.env = (false, eval e X.env) :: starEach es X.env := by rfl) : JL X W (e :: es) (lCons r l) := let ⟨_, p, d⟩ := ha; let ⟨_, q, d'⟩ := hr; ⟨_, pa_cons p q hs, tdl_cons d d'⟩
theorem jl_star {l : FL} {p : Pos} (ha : JE X W e f) (hr : JL X W es l) (hs : starEach (.Starred e p :: es) X.env = (true, eval e X.env) :: starEach es X.env := by rfl) : JL X W (.Starred e p :: es) (lStar f l) := let ⟨_, p, d⟩ := ha; let ⟨_, q, d'⟩ := hr; ⟨_, StX.pa_star p q hs, tdl_star d d'⟩
theorem jk_nil : JK X W [] lNil := ⟨_, pk_nil, tdl_nil⟩
theorem jk_cons {nm : Option Str} {kpos : Pos} {kws : List Keyword} {r : FR} {l : FL} (ha : JR X W e r) (hr : JK X W kws l) : JK X W (⟨nm, e, kpos⟩ :: kws) (lCons r l) := let ⟨_, p, d⟩ := ha; let ⟨_, q, d'⟩ := hr; ⟨_, pk_cons p q, tdl_cons d d'⟩
/-! built-in functions and types -/
variable {x : Str} {p : Pos} {id T : String} {r : List V → Hp → VK → Prop} {g : List D → Option D}
theorem je_bi (hc : CallR X (.builtin id) r) (hr : RDL X.K X.mg r g) (hm : X.mg x = none) (ha : JA X W (e :: es) fr) (hv : bootBuiltins x = some (.builtin id)) (hg : Gl X x) (hn : x ≠ "__name__" := by decide) (hdb : (x == ("__debug__" : Str)) = false := by decide)
    (he : starEach (e :: es) X.env = (false, eval e X.env) :: starEach es X.env := by rfl) (hpl : (backTo pos (starEach es X.env)).any (·.1) = false := by rfl) : JE X W (.Call (.Name x p) (e :: es) [] pos) (eA g fr) :=
  let ⟨_, p, d⟩ := ha; ⟨_, pe_callB hc hg hm hv p hn hdb he hpl, td_cb d hr⟩
theorem je_ty (hc : CallR X (.type T) r) (hr : RDL X.K X.mg r g) (hm : X.mg x = none) (ha : JA X W (e :: es) fr) (hv : bootBuiltins x = some (.type T)) (hg : Gl X x) (hn : x ≠ "__name__" := by decide) (hdb : (x == ("__debug__" : Str)) = false := by decide)
    (he : starEach (e :: es) X.env = (false, eval e X.env) :: starEach es X.env := by rfl) (hpl : (backTo pos (starEach es X.env)).any (·.1) = false := by rfl) : JE X W (.Call (.Name x p) (e :: es) [] pos) (eA g fr) :=
  let ⟨_, p, d⟩ := ha; ⟨_, pe_callTy hc hg hm hv p hn hdb he hpl, td_cb d hr⟩
end
/-! a[b], a[b:c] -/
section
variable {a b : Expr} {f f' : FE} {pos : Pos}
theorem je_ix (ha : JE X W a f) (hb : JE X W b f') (hs : PlainIx b := by intro _ _; rfl) : JE X W (.Subscript a b pos) (e2 gIx f f') := let ⟨_, p, d⟩ := ha; let ⟨_, q, d'⟩ := hb; ⟨_, pe_ix ix_seq p q hs, td_op d d' rd_ix⟩
end
abbrev FO := List Sl → List D → Rs (Option Int)
def oNone : FO := fun _ mu => .ok none mu
def oSome (f : FE) : FO := fun rho mu => (f rho mu).bind fun d mu1 => match d with
  | .int i => .ok (some i) mu1
  | _ => .stuck
def cutD {α : Type} (xs : List α) (lo hi : Option Int) : List α := (xs.drop (HT.sIx xs.length 0 lo)).take (HT.sIx xs.length xs.length hi - HT.sIx xs.length 0 lo)
def gSlice (lo hi : Option Int) : D → Option D
  | .lst xs => some (.lst (cutD xs lo hi))
  | .fro xs => some (.lst (cutD xs lo hi))
  | .tup xs => some (.tup (cutD xs lo hi))
  | .str z => if z.length ≤ 16777216 then some (.str (cutS z lo hi)) else none
  | _ => none
def eSlice (f : FE) (lo hi : FO) : FE := fun rho mu => (f rho mu).bind fun a mu1 => (lo rho mu1).bind fun l mu2 => (hi rho mu2).bind fun u mu3 => Rs.ofO (gSlice l u a) mu3
def ContO (K : PySem.W.Frag) (mg : Str → Option Value) (W : WX) (B : Hp) (F : Addr → Bool) (pi : List (Option Addr)) (rho : List Sl) (σ : L2.St) (H : Hp) (Q : Option Int → Hp → Prop) : Rs (Option Int) → Prop
  | .ok o mu => ∀ H', Sat K mg B F pi rho mu σ H' → Ext (hid F pi H) (hid F pi H') → Q o H'
  | .err x mu => ∀ cls dd H', Sat K mg B F pi rho mu σ H' → Ext (hid F pi H) (hid F pi H') → RpX K mg (hid F pi H') cls dd x → W cls dd σ H'
  | .stuck => False
def TDO (K : PySem.W.Frag) (mg : Str → Option Value) (W : WX) (t : TO) (f : FO) : Prop := ∀ (B : Hp) (F : Addr → Bool) (pi : List (Option Addr)) (rho : List Sl) (mu : List D) (σ : L2.St) (H : Hp) (Q : Option Int → Hp → Prop),
  Sat K mg B F pi rho mu σ H → ContO K mg W B F pi rho σ H Q (f rho mu) → t σ H Q
section
variable {K : PySem.W.Frag} {mg : Str → Option Value} {B : Hp} {F : Addr → Bool} {pi pi1 : List (Option Addr)} {rho : List Sl} {mu mu' : List D} {σ : L2.St} {H H1 : Hp}
theorem tdo_none : TDO K mg W tNoPart oNone := fun B F pi rho mu σ H Q S h => h H S (Ext.refl _)
theorem tdo_some {t : TE} {f : FE} (ht : TD K mg W t f) : TDO K mg W (tPart t) (oSome f) := by
  intro B F pi rho mu σ H Q S h
  refine ht B F pi rho mu σ H _ S ?_
  unfold oSome at h
  cases e : f rho mu with
  | ok d mu1 =>
    rw [e] at h
    intro v H' S' e' r
    cases r with
    | int i => exact ⟨i, rfl, h H' S' e'⟩
    | _ => exact h.elim
  | err x mu1 => rw [e] at h; exact h
  | stuck => rw [e] at h; exact h
theorem TDO.bindE {t : TO} {f : FO} {kk : Option Int → List D → Rs D} {Q : VK} {Q' : Option Int → Hp → Prop} (ht : TDO K mg W t f) (S : Sat K mg B F pi rho mu σ H) (h : ContE K mg W B F pi rho σ H Q ((f rho mu).bind kk))
    (go : ∀ d mu1 H1, Sat K mg B F pi rho mu1 σ H1 → Ext (hid F pi H) (hid F pi H1) → ContE K mg W B F pi rho σ H1 Q (kk d mu1) → Q' d H1) : t σ H Q' := by
  refine ht B F pi rho mu σ H Q' S ?_
  cases e : f rho mu with
  | ok d mu1 => rw [e] at h; exact fun H' S' e' => go d mu1 H' S' e' (h.up e')
  | err x mu1 => rw [e] at h; exact h
  | stuck => rw [e] at h; exact h
theorem RpL.cut {vs : List V} {ds : List D} (r : RpL K mg H vs ds) (lo hi : Option Int) : RpL K mg H (cutV vs lo hi) (cutD ds lo hi) := by
  unfold cutV cutD
  rw [r.length]
  exact (r.drop _).take _
end
abbrev rSlU (K : PySem.W.Frag) : V → Option Int → Option Int → Hp → VK → Prop := fun x lo hi H Q => rSlL K x lo hi H Q ∨ (rSlA K x lo hi H Q ∨ rSlS x lo hi H Q)
theorem sl_any : SlR X (rSlU X.K) := sl_list.or (sl_tupA.or sl_str)
theorem rd_sl {K : PySem.W.Frag} {mg : Str → Option Value} (lo hi : Option Int) : RD1 K mg (fun x H Q => rSlU K x lo hi H Q) (gSlice lo hi) := by
  intro F pi H x a d Q n r e kk
  cases r with
  | lst h rl =>
    cases e
    refine .inl ⟨_, _, rfl, .inl (.inl (hid_le _ _ h)), fun p hp => ?_⟩
    obtain ⟨n1, n2⟩ := Ext.hidNew (o := .lst (cutV _ lo hi)) hp (n p hp)
    exact kk _ _ (Ext.new hp) (.lst n1 ((rl.cut lo hi).mono n2))
  | fro h rl =>
    cases e
    refine .inl ⟨_, _, rfl, Ext.sqL hid_le h, fun p hp => ?_⟩
    obtain ⟨n1, n2⟩ := Ext.hidNew (o := .lst (cutV _ lo hi)) hp (n p hp)
    exact kk _ _ (Ext.new hp) (.lst n1 ((rl.cut lo hi).mono n2))
  | tup h rl =>
    cases e
    refine .inr (.inl ⟨_, _, rfl, Ext.sqT hid_le h, fun hw => ?_, fun hw p hp => ?_⟩)
    · have hw' := hw
      rw [rl.length] at hw'
      refine kk _ H (Ext.refl _) (.tup h ?_)
      have e1 := hw'.1
      have e2 := hw'.2
      unfold cutD
      rw [e1, e2, List.drop_zero, Nat.sub_zero, List.take_length]
      exact rl
    · obtain ⟨n1, n2⟩ := Ext.hidNew (o := .tup (cutV _ lo hi)) hp (n p hp)
      exact kk _ _ (Ext.new hp) (.tup (.inl (.inl n1)) ((rl.cut lo hi).mono n2))
  | str z =>
    unfold gSlice at e
    simp only at e
    split at e
    · rename_i hl; cases e
      exact .inr (.inr ⟨z, rfl, line_of hl, kk _ H (Ext.refl _) (.str _)⟩)
    · cases e
  | _ => cases e
theorem td_slice {K : PySem.W.Frag} {mg : Str → Option Value} {te : TE} {tl th : TO} {f : FE} {fl fh : FO} (he : TD K mg W te f) (hl : TDO K mg W tl fl) (hh : TDO K mg W th fh) : TD K mg W (L2.tSl (rSlU K) te tl th) (eSlice f fl fh) := by
  intro B F pi rho mu σ H Q S h
  show te σ H _
  refine TD.bind he S h fun d mu1 v H1 S1 x1 r1 h1 => ?_
  refine TDO.bindE hl S1 h1 fun l mu2 H2 S2 x2 h2 => ?_
  refine TDO.bindE hh S2 h2 fun u mu3 H3 S3 x3 h3 => ?_
  obtain ⟨z, ez, hz⟩ := ofO_some (α := D) (o := none) h3
  exact rd_sl l u F pi H3 v d z Q (fun b e => S3.new_hid e) (r1.mono (x2.trans x3)) ez fun w H' e r => hz w H' (S3.ext' e) (S3.hext e) r
def JO (X : Cx) (W : WX) (e : Option Expr) (f : FO) : Prop := ∃ t, PO X e t ∧ TDO X.K X.mg W t f
theorem jo_none : JO X W none oNone := ⟨_, po_none, tdo_none⟩
theorem jo_some {e : Expr} {f : FE} (h : JE X W e f) : JO X W (some e) (oSome f) := let ⟨_, p, d⟩ := h; ⟨_, po_some p, tdo_some d⟩
theorem je_slice {e : Expr} {lo hi : Option Expr} {f : FE} {fl fh : FO} {p2 pos : Pos} (he : JE X W e f) (hl : JO X W lo fl) (hh : JO X W hi fh) : JE X W (.Subscript e (.Slice lo hi none p2) pos) (eSlice f fl fh) :=
  let ⟨_, p, d⟩ := he; let ⟨_, q, d1⟩ := hl; let ⟨_, q', d2⟩ := hh; ⟨_, pe_slice sl_any p q q', td_slice d d1 d2⟩
/-! methods of texts -/
def eM1 (g : D → List D → Option D) (fo fe : FE) : FE := fun rho mu => (fo rho mu).bind fun a mu1 => match a with
  | .str _ => (fe rho mu1).bind fun b mu2 => Rs.ofO (g a [b]) mu2
  | _ => .stuck
theorem td_m1 {K : PySem.W.Frag} {mg : Str → Option Value} {r : V → List V → Hp → VK → Prop} {g : D → List D → Option D} {to te : TE} {fo fe : FE} (ho : TD K mg W to fo) (he : TD K mg W te fe) (hr : RDM K mg r g) : TD K mg W (tM1 r to te) (eM1 g fo fe) := by
  intro B F pi rho mu σ H Q S h
  show to σ H _
  refine TD.bind ho S h fun d mu1 v H1 S1 x1 r1 h1 => ?_
  cases r1 with
  | str z =>
    refine ⟨⟨z, rfl⟩, ?_⟩
    refine TD.bind he S1 h1 fun d2 mu2 v2 H2 S2 x2 r2 h2 => ?_
    obtain ⟨y, ey, hy⟩ := ofO_some (α := D) (o := none) h2
    exact hr F pi H2 (.str z) [v2] (.str z) [d2] y Q (fun b e => S2.new_hid e) (.str z) (.cons r2 .nil) ey fun u H' e r => hy u H' (S2.ext' e) (S2.hext e) r
  | _ => exact h1.elim
theorem je_split {o e : Expr} {fo fe : FE} {apos pos : Pos} (ho : JE X W o fo) (he : JE X W e fe) (hs : starEach [e] X.env = [(false, eval e X.env)] := by rfl) (hbase : attributeBase o "split" X.env (eval o X.env) = eval o X.env := by rfl) (hline : (apos.endLine == pos.line) = true := by rfl) :
    JE X W (.Call (.Attribute o "split" apos) [e] [] pos) (eM1 gSplit fo fe) := let ⟨_, p, d⟩ := ho; let ⟨_, q, d'⟩ := he; ⟨_, pe_split p q hs hbase hline, td_m1 d d' rd_split⟩
theorem je_join {o e : Expr} {fo fe : FE} {apos pos : Pos} (ho : JE X W o fo) (he : JE X W e fe) (hs : starEach [e] X.env = [(false, eval e X.env)] := by rfl) (hbase : attributeBase o "join" X.env (eval o X.env) = eval o X.env := by rfl) (hline : (apos.endLine == pos.line) = true := by rfl) :
    JE X W (.Call (.Attribute o "join" apos) [e] [] pos) (eM1 gJoin fo fe) := let ⟨_, p, d⟩ := ho; let ⟨_, q, d'⟩ := he; ⟨_, pe_join p q hs hbase hline, td_m1 d d' rd_join⟩
/-! f-strings -/
def gFmt : D → Option D
  | .str y => if y.length ≤ 16777216 then some (.str y) else none
  | .int i => if i.natAbs.log2 < 1920 then some (.str (toString i)) else none
  | _ => none
theorem td_fmt {K : PySem.W.Frag} {mg : Str → Option Value} {te : TE} {f : FE} (he : TD K mg W te f) : TD K mg W (tFmt te) (e1 gFmt f) := by
  intro B F pi rho mu σ H Q S h
  show te σ H _
  refine TD.bind he S h fun d mu1 v H1 S1 x1 r1 h1 => ?_
  obtain ⟨z, ez, hz⟩ := ofO_some (α := D) (o := none) h1
  unfold gFmt at ez
  cases r1 with
  | str y =>
    simp only at ez
    split at ez
    · rename_i hl; cases ez; exact .inl ⟨y, rfl, line_of hl, hz _ H1 S1 (Ext.refl _) (.str y)⟩
    · cases ez
  | int i =>
    simp only at ez
    split at ez
    · rename_i hl; cases ez; exact .inr ⟨i, rfl, hl, hz _ H1 S1 (Ext.refl _) (.str _)⟩
    · cases ez
  | _ => cases ez
theorem je_fmt {e : Expr} {f : FE} {pos : Pos} (h : JE X W e f) : JE X W (.FormattedValue e (-1) none pos) (e1 gFmt f) := let ⟨_, p, d⟩ := h; ⟨_, pe_fmt p, td_fmt d⟩
/-- the parts of an f-string -/
def jsD : List FE → Str → FE
  | [], acc, _, mu => .ok (.str acc) mu
  | f :: fs, acc, rho, mu => (f rho mu).bind fun d mu1 => match d with
    | .str y => if (acc ++ y).length ≤ 16777216 then jsD fs (acc ++ y) rho mu1 else .stuck
    | _ => .stuck
inductive JJ (X : Cx) (W : WX) : List Expr → List FE → Prop
  | nil : JJ X W [] []
  | cons {e : Expr} {f : FE} {es : List Expr} {fs : List FE} : JE X W e f → JJ X W es fs → JJ X W (e :: es) (f :: fs)
theorem jj_ts {es : List Expr} {fs : List FE} (h : JJ X W es fs) : ∃ ts, PJ X es ts ∧ ∀ (acc : Str), TD X.K X.mg W (fun σ H Q => tJs ts acc σ H fun out H1 => Q (.str out) H1) (jsD fs acc) := by
  induction h with
  | nil => exact ⟨[], .nil, fun acc B F pi rho mu σ H Q S h => h _ H S (Ext.refl _) (.str acc)⟩
  | @cons e f es fs he _ ih =>
    obtain ⟨t, p, d⟩ := he
    obtain ⟨ts, q, ih⟩ := ih
    refine ⟨t :: ts, .cons p q, fun acc B F pi rho mu σ H Q S h => ?_⟩
    show t σ H _
    refine TD.bind d S h fun z mu1 v H1 S1 x1 r1 h1 => ?_
    cases r1 with
    | str y =>
      simp only at h1
      split at h1
      · rename_i hl
        exact ⟨y, rfl, line_of hl, ih (acc ++ y) B F pi rho mu1 σ H1 Q S1 h1⟩
      · exact h1.elim
    | _ => exact h1.elim
theorem je_joined {v1 v2 : Expr} {rest : List Expr} {fs : List FE} {pos : Pos} (h : JJ X W (v1 :: v2 :: rest) fs) : JE X W (.JoinedStr (v1 :: v2 :: rest) pos) (jsD fs Str.empty) := by
  obtain ⟨ts, p, d⟩ := jj_ts h
  exact ⟨_, pe_joined p, d Str.empty⟩
end
end DL

set_option maxHeartbeats 4000000
/-! DLi: what is walked; comprehensions; statements. -/
namespace DL
open PySem PySem.Spec PyProof.Rows L2

/-! ### what is walked -/
def signsD (x : Str) : List D := x.cps.toList.map fun c => .str ⟨#[c]⟩
def iterD : D → Option (List D)
  | .str x => some (signsD x)
  | d => itemsD d
def aIt (f : FE) : FA := fun rho mu => (f rho mu).bind fun a mu1 => Rs.ofO (iterD a) mu1
def rangeD (lo : Int) (n : Nat) : List D := (List.range n).map fun i => .int (lo + (i : Nat))
def aRange1 (f : FA) : FA := fun rho mu => (f rho mu).bind fun as mu1 => match as with
    | [.int j] => if -(2 ^ 62) ≤ j ∧ j < 2 ^ 62 then .ok (rangeD 0 j.toNat) mu1 else .stuck
    | _ => .stuck
def aRange2 (f : FA) : FA := fun rho mu => (f rho mu).bind fun as mu1 => match as with
    | [.int i, .int j] => if -(2 ^ 62) ≤ i ∧ i < 2 ^ 62 ∧ -(2 ^ 62) ≤ j ∧ j < 2 ^ 62 then .ok (rangeD i (j - i).toNat) mu1 else .stuck
    | _ => .stuck
def enumD : Nat → List D → List D
  | _, [] => []
  | n, d :: ds => .tup [.int (n : Nat), d] :: enumD (n + 1) ds
def aEnum (f : FA) : FA := fun rho mu => (f rho mu).bind fun as mu1 => match as with
  | [.lst xs] => .ok (enumD 0 xs) mu1
  | [.fro xs] => .ok (enumD 0 xs) mu1
  | _ => .stuck
def zipD : List D → List D → List D
  | a :: as, b :: bs => .tup [a, b] :: zipD as bs
  | _, _ => []
def isLst : D → Bool
  | .lst _ => true
  | .fro _ => true
  | _ => false
def aZip (f : FA) : FA := fun rho mu => (f rho mu).bind fun as mu1 => match as with
  | [a, b] => (match itemsD a, itemsD b with
    | some xs, some ys => if isLst a = isLst b then .ok (zipD xs ys) mu1 else .stuck
    | _, _ => .stuck)
  | _ => .stuck
section
variable {K : PySem.W.Frag} {mg : Str → Option Value} {W : WX} {B : Hp} {F : Addr → Bool} {pi pi1 : List (Option Addr)} {rho : List Sl} {mu mu' : List D} {σ : L2.St} {H H1 : Hp}
theorem TD.bindI {t : TE} {f : FE} {k : D → List D → Rs (List D)} {R : It → Hp → Prop} {Q' : VK} (ht : TD K mg W t f) (S : Sat K mg B F pi rho mu σ H) (h : ContI K mg W B F pi rho σ H R ((f rho mu).bind k))
    (go : ∀ d mu1 v H1, Sat K mg B F pi rho mu1 σ H1 → Ext (hid F pi H) (hid F pi H1) → Rp K mg (hid F pi H1) v d → ContI K mg W B F pi rho σ H1 R (k d mu1) → Q' v H1) : t σ H Q' := by
  refine ht B F pi rho mu σ H Q' S ?_
  cases e : f rho mu with
  | ok d mu1 =>
    rw [e] at h
    refine fun v H' S' e' r => go d mu1 v H' S' e' r ?_
    have h : ContI K mg W B F pi rho σ H R (k d mu1) := h
    cases q : k d mu1 with
    | ok ds m => rw [q] at h; exact fun J H2 S2 x2 => h J H2 S2 (e'.trans x2)
    | err x m => rw [q] at h; exact fun c dd H2 S2 x2 => h c dd H2 S2 (e'.trans x2)
    | stuck => rw [q] at h; exact h
  | err x mu1 => rw [e] at h; exact h
  | stuck => rw [e] at h; exact h
theorem TDA.bindI {t : TA} {f : FA} {k : List D → List D → Rs (List D)} {R : It → Hp → Prop} {Q' : List V → Hp → Prop} (ht : TDA K mg W t f) (S : Sat K mg B F pi rho mu σ H) (h : ContI K mg W B F pi rho σ H R ((f rho mu).bind k))
    (go : ∀ d mu1 v H1, Sat K mg B F pi rho mu1 σ H1 → Ext (hid F pi H) (hid F pi H1) → RpL K mg (hid F pi H1) v d → ContI K mg W B F pi rho σ H1 R (k d mu1) → Q' v H1) : t σ H Q' := by
  refine ht B F pi rho mu σ H Q' S ?_
  cases e : f rho mu with
  | ok d mu1 =>
    rw [e] at h
    refine fun v H' S' e' r => go d mu1 v H' S' e' r ?_
    have h : ContI K mg W B F pi rho σ H R (k d mu1) := h
    cases q : k d mu1 with
    | ok ds m => rw [q] at h; exact fun J H2 S2 x2 => h J H2 S2 (e'.trans x2)
    | err x m => rw [q] at h; exact fun c dd H2 S2 x2 => h c dd H2 S2 (e'.trans x2)
    | stuck => rw [q] at h; exact h
  | err x mu1 => rw [e] at h; exact h
  | stuck => rw [e] at h; exact h
theorem itd_list {Hh : Hp} {a : Addr} {vs : List V} {ds : List D} (h : SqL K Hh a vs) (r : RpL K mg Hh vs ds) : ItD K mg (Itl K a) ds Hh := fun i H F pi e _ => by
  have hq : SqL K H a vs := Ext.sqL hid_le (e.sqL h)
  refine ⟨fun hi => ⟨vs, hq, by rw [r.length]; exact hi⟩, fun d hd => ?_⟩
  obtain ⟨v, hv, rv⟩ := r.get hd
  refine ⟨⟨vs, v, hq, hv⟩, fun x H' ⟨eH, hx⟩ => ?_⟩
  subst eH
  have := hx vs hq
  rw [hv] at this; cases this
  exact ⟨Ext.refl _, rv.mono e⟩
theorem itd_tup {Hh : Hp} {a : Addr} {vs : List V} {ds : List D} (h : SqT K Hh a vs) (r : RpL K mg Hh vs ds) : ItD K mg (Itt K a) ds Hh := fun i H F pi e _ => by
  have hq : SqT K H a vs := Ext.sqT hid_le (e.sqT h)
  refine ⟨fun hi => ⟨vs, hq, by rw [r.length]; exact hi⟩, fun d hd => ?_⟩
  obtain ⟨v, hv, rv⟩ := r.get hd
  refine ⟨⟨vs, v, hq, hv⟩, fun x H' ⟨eH, hx⟩ => ?_⟩
  subst eH
  have := hx vs hq
  rw [hv] at this; cases this
  exact ⟨Ext.refl _, rv.mono e⟩
theorem itd_str {Hh : Hp} (x : Str) : ItD K mg (Its x) (signsD x) Hh := fun i H F pi e _ => by
  refine ⟨fun hi => by unfold signsD at hi; rw [List.length_map, Array.length_toList] at hi; exact hi, fun d hd => ?_⟩
  unfold signsD at hd
  rw [List.getElem?_map] at hd
  cases q : x.cps.toList[i]? with
  | none => rw [q] at hd; cases hd
  | some c =>
    rw [q] at hd; cases hd
    rw [Array.getElem?_toList] at q
    refine ⟨(Array.getElem?_eq_some_iff.mp q).1, fun y H' ⟨eH, c', hc, ey⟩ => ?_⟩
    subst eH ey
    rw [q] at hc; cases hc
    exact ⟨Ext.refl _, .str _⟩
theorem itd_range {Hh : Hp} (lo : Int) (n : Nat) : ItD K mg (Itr lo n) (rangeD lo n) Hh := fun i H F pi e _ => by
  unfold rangeD
  refine ⟨fun hi => by rw [List.length_map, List.length_range] at hi; exact hi, fun d hd => ?_⟩
  rw [List.getElem?_map] at hd
  cases q : (List.range n)[i]? with
  | none => rw [q] at hd; cases hd
  | some c =>
    rw [q] at hd; cases hd
    obtain ⟨hl, hc⟩ := List.getElem?_eq_some_iff.mp q
    rw [List.getElem_range] at hc
    subst hc
    rw [List.length_range] at hl
    exact ⟨hl, fun x H' ⟨eH, ex⟩ => by subst eH ex; exact ⟨Ext.refl _, .int _⟩⟩
theorem enumD_length : ∀ (n : Nat) (ds : List D), (enumD n ds).length = ds.length
  | _, [] => rfl
  | n, _ :: ds => congrArg (· + 1) (enumD_length (n + 1) ds)
theorem enumD_get : ∀ (ds : List D) (n i : Nat) (d : D), (enumD n ds)[i]? = some d → ∃ e, ds[i]? = some e ∧ d = .tup [.int ((n + i : Nat) : Int), e]
  | [], _, i, d, h => by simp [enumD] at h
  | e :: ds, n, 0, d, h => by simp [enumD] at h; exact ⟨e, rfl, h.symm⟩
  | e :: ds, n, i + 1, d, h => by
    obtain ⟨e', h1, h2⟩ := enumD_get ds (n + 1) i d (by simpa [enumD] using h)
    exact ⟨e', by simpa using h1, by rw [h2]; congr 3; omega⟩
/-- a new pair -/
theorem rp_pair {F : Addr → Bool} {pi : List (Option Addr)} {H : Hp} {T : Addr} {x y : V} {a b : D} (hT : H T = none) (n : ∀ b, H b = none → hidB F pi b = false) (rx : Rp K mg (hid F pi H) x a) (ry : Rp K mg (hid F pi H) y b) :
    Ext H (upd H T (.tup [x, y])) ∧ Rp K mg (hid F pi (upd H T (.tup [x, y]))) (.ref T) (.tup [a, b]) := by
  obtain ⟨n1, n2⟩ := Ext.hidNew (F := F) (pi := pi) (o := .tup [x, y]) hT (n T hT)
  exact ⟨Ext.new hT, .tup (.inl (.inl n1)) (.cons (rx.mono n2) (.cons (ry.mono n2) .nil))⟩
theorem itd_enum {Hh : Hp} {a : Addr} {vs : List V} {ds : List D} (h : SqL K Hh a vs) (r : RpL K mg Hh vs ds) : ItD K mg (Ite K a) (enumD 0 ds) Hh := fun i H F pi e n => by
  have hq : SqL K H a vs := Ext.sqL hid_le (e.sqL h)
  refine ⟨fun hi => ⟨vs, hq, by rw [r.length]; rw [enumD_length] at hi; exact hi⟩, fun d hd => ?_⟩
  obtain ⟨d', hd', ed⟩ := enumD_get ds 0 i d hd
  obtain ⟨v, hv, rv⟩ := r.get hd'
  refine ⟨⟨vs, v, hq, hv⟩, fun x H' ⟨T, y, ex, hT, eH, hy⟩ => ?_⟩
  have := hy vs hq
  rw [hv] at this; cases this
  subst ex eH ed
  obtain ⟨p1, p2⟩ := rp_pair hT n (Rp.int (i : Nat)) (rv.mono e)
  refine ⟨p1, ?_⟩
  rw [Nat.zero_add]
  exact p2
theorem zipD_length : ∀ (as bs : List D), (zipD as bs).length = min as.length bs.length
  | [], _ => by simp [zipD]
  | _ :: _, [] => by simp [zipD]
  | a :: as, b :: bs => by simp [zipD, zipD_length as bs]
theorem zipD_get : ∀ (as bs : List D) (i : Nat) (d : D), (zipD as bs)[i]? = some d → ∃ a b, as[i]? = some a ∧ bs[i]? = some b ∧ d = .tup [a, b]
  | [], _, i, d, h => by simp [zipD] at h
  | _ :: _, [], i, d, h => by simp [zipD] at h
  | a :: as, b :: bs, 0, d, h => by simp [zipD] at h; exact ⟨a, b, rfl, rfl, h.symm⟩
  | a :: as, b :: bs, i + 1, d, h => by
    obtain ⟨a', b', h1, h2, h3⟩ := zipD_get as bs i d (by simpa [zipD] using h)
    exact ⟨a', b', by simpa using h1, by simpa using h2, h3⟩
theorem itd_zip {Hh : Hp} {a b : Addr} {vs ws : List V} {ds es : List D} (h : SqL K Hh a vs) (r : RpL K mg Hh vs ds) (h' : SqL K Hh b ws) (r' : RpL K mg Hh ws es) : ItD K mg (Itz K a b) (zipD ds es) Hh := fun i H F pi e n => by
  have hq : SqL K H a vs := Ext.sqL hid_le (e.sqL h)
  have hq' : SqL K H b ws := Ext.sqL hid_le (e.sqL h')
  refine ⟨fun hi => ⟨vs, ws, hq, hq', by rw [r.length, r'.length]; rw [zipD_length] at hi; omega⟩, fun d hd => ?_⟩
  obtain ⟨x, y, hx, hy, ed⟩ := zipD_get ds es i d hd
  obtain ⟨v, hv, rv⟩ := r.get hx
  obtain ⟨u, hu, ru⟩ := r'.get hy
  refine ⟨⟨vs, ws, v, u, hq, hq', hv, hu⟩, fun z H' ⟨T, v', u', ez, hT, eH, q1, q2⟩ => ?_⟩
  have e1 := q1 vs hq
  have e2 := q2 ws hq'
  rw [hv] at e1; rw [hu] at e2; cases e1; cases e2
  subst ez eH ed
  exact rp_pair hT n (rv.mono e) (ru.mono e)
theorem itd_zipT {Hh : Hp} {a b : Addr} {vs ws : List V} {ds es : List D} (h : SqT K Hh a vs) (r : RpL K mg Hh vs ds) (h' : SqT K Hh b ws) (r' : RpL K mg Hh ws es) : ItD K mg (RZ.ItzT K a b) (zipD ds es) Hh := fun i H F pi e n => by
  have hq : SqT K H a vs := Ext.sqT hid_le (e.sqT h)
  have hq' : SqT K H b ws := Ext.sqT hid_le (e.sqT h')
  refine ⟨fun hi => ⟨vs, ws, hq, hq', by rw [r.length, r'.length]; rw [zipD_length] at hi; omega⟩, fun d hd => ?_⟩
  obtain ⟨x, y, hx, hy, ed⟩ := zipD_get ds es i d hd
  obtain ⟨v, hv, rv⟩ := r.get hx
  obtain ⟨u, hu, ru⟩ := r'.get hy
  refine ⟨⟨vs, ws, v, u, hq, hq', hv, hu⟩, fun z H' ⟨T, v', u', ez, hT, eH, q1, q2⟩ => ?_⟩
  have e1 := q1 vs hq
  have e2 := q2 ws hq'
  rw [hv] at e1; rw [hu] at e2; cases e1; cases e2
  subst ez eH ed
  exact rp_pair hT n (rv.mono e) (ru.mono e)
def iAny (K : PySem.W.Frag) (te : TE) : TI := fun σ H R => iList K te σ H R ∨ iTup K te σ H R ∨ iStr te σ H R
theorem td_it {te : TE} {f : FE} (he : TD K mg W te f) : TDI K mg W (iAny K te) (aIt f) := by
  intro B F pi rho mu σ H R S h
  have h : ContI K mg W B F pi rho σ H R ((f rho mu).bind fun a mu1 => Rs.ofO (iterD a) mu1) := h
  cases e : f rho mu with
  | err x mu1 => rw [e] at h; exact .inl (he B F pi rho mu σ H _ S (by rw [e]; exact h))
  | stuck => rw [e] at h; exact h.elim
  | ok d mu1 =>
    rw [e] at h
    cases d with
    | str x => exact .inr (.inr (he B F pi rho mu σ H _ S (by rw [e]; exact fun v H' S' e' r => by cases r; exact ⟨x, rfl, h _ H' S' e' (itd_str x)⟩)))
    | tup xs => exact .inr (.inl (he B F pi rho mu σ H _ S (by rw [e]; exact fun v H' S' e' r => by cases r with | tup q rl => exact ⟨_, rfl, ⟨_, Ext.sqT hid_le q⟩, h _ H' S' e' (itd_tup q rl)⟩)))
    | lst xs => exact .inl (he B F pi rho mu σ H _ S (by rw [e]; exact fun v H' S' e' r => by cases r with | lst q rl => exact ⟨_, rfl, ⟨_, .inl (.inl (hid_le _ _ q))⟩, h _ H' S' e' (itd_list (.inl (.inl q)) rl)⟩))
    | fro xs => exact .inl (he B F pi rho mu σ H _ S (by rw [e]; exact fun v H' S' e' r => by cases r with | fro q rl => exact ⟨_, rfl, ⟨_, Ext.sqL hid_le q⟩, h _ H' S' e' (itd_list q rl)⟩))
    | non => exact h.elim
    | bl _ => exact h.elim
    | int _ => exact h.elim
    | dct _ => exact h.elim
    | obj _ _ => exact h.elim
    | cls _ => exact h.elim
theorem td_range1 {ta : TA} {f : FA} (ha : TDA K mg W ta f) : TDI K mg W (iRng1 ta) (aRange1 f) := by
  intro B F pi rho mu σ H R S h
  show ta σ H _
  refine TDA.bindI ha S h fun ds mu1 vs H1 S1 x1 r1 h1 => ?_
  split at h1
  · split at h1
    · rename_i j hb
      cases r1 with
      | cons a r => cases r; cases a; exact ⟨j, rfl, hb.1, hb.2, h1 _ H1 S1 (Ext.refl _) (itd_range 0 j.toNat)⟩
    · exact h1.elim
  · exact h1.elim
theorem td_range2 {ta : TA} {f : FA} (ha : TDA K mg W ta f) : TDI K mg W (iRng2 ta) (aRange2 f) := by
  intro B F pi rho mu σ H R S h
  show ta σ H _
  refine TDA.bindI ha S h fun ds mu1 vs H1 S1 x1 r1 h1 => ?_
  split at h1
  · split at h1
    · rename_i i j hb
      cases r1 with
      | cons a r =>
        cases r with
        | cons b r => cases r; cases a; cases b; exact ⟨i, j, rfl, hb, h1 _ H1 S1 (Ext.refl _) (itd_range i (j - i).toNat)⟩
    · exact h1.elim
  · exact h1.elim
theorem td_enum {ta : TA} {f : FA} (ha : TDA K mg W ta f) : TDI K mg W (iEnum K ta) (aEnum f) := by
  intro B F pi rho mu σ H R S h
  show ta σ H _
  refine TDA.bindI ha S h fun ds mu1 vs H1 S1 x1 r1 h1 => ?_
  split at h1
  · cases r1 with
    | cons a r => cases r; cases a with | lst q rl => exact ⟨_, _, rfl, .inl (.inl (hid_le _ _ q)), h1 _ H1 S1 (Ext.refl _) (itd_enum (.inl (.inl q)) rl)⟩
  · cases r1 with
    | cons a r => cases r; cases a with | fro q rl => exact ⟨_, _, rfl, Ext.sqL hid_le q, h1 _ H1 S1 (Ext.refl _) (itd_enum q rl)⟩
  · exact h1.elim
theorem lst_of {Hh : Hp} {v : V} {d : D} {ds : List D} (r : Rp K mg Hh v d) (e : itemsD d = some ds) (hl : isLst d = true) : ∃ p xs, v = .ref p ∧ SqL K Hh p xs ∧ RpL K mg Hh xs ds := by
  cases r with
  | lst h rl => cases e; exact ⟨_, _, rfl, .inl (.inl h), rl⟩
  | fro h rl => cases e; exact ⟨_, _, rfl, h, rl⟩
  | _ => cases hl
theorem tup_of {Hh : Hp} {v : V} {d : D} {ds : List D} (r : Rp K mg Hh v d) (e : itemsD d = some ds) (hl : isLst d = false) : ∃ p xs, v = .ref p ∧ SqT K Hh p xs ∧ RpL K mg Hh xs ds := by
  cases r with
  | tup h rl => cases e; exact ⟨_, _, rfl, h, rl⟩
  | lst h rl => cases hl
  | fro h rl => cases hl
  | _ => cases e
theorem td_zip {ta : TA} {f : FA} (ha : TDA K mg W ta f) : TDI K mg W (RZ.iZipA K ta) (aZip f) := by
  intro B F pi rho mu σ H R S h
  show ta σ H _
  refine TDA.bindI ha S h fun ds mu1 vs H1 S1 x1 r1 h1 => ?_
  split at h1
  · rename_i a b
    split at h1
    · rename_i xs ys ea eb
      split at h1
      · rename_i hl
        cases r1 with
        | cons ra r =>
          cases r with
          | cons rb r =>
            cases r
            cases q : isLst a with
            | true =>
              obtain ⟨p, us, rfl, q1, q2⟩ := lst_of ra ea q
              obtain ⟨p', us', rfl, q1', q2'⟩ := lst_of rb eb (by rw [← hl, q])
              exact ⟨_, _, _, _, rfl, .inl ⟨Ext.sqL hid_le q1, Ext.sqL hid_le q1', h1 _ H1 S1 (Ext.refl _) (itd_zip q1 q2 q1' q2')⟩⟩
            | false =>
              obtain ⟨p, us, rfl, q1, q2⟩ := tup_of ra ea q
              obtain ⟨p', us', rfl, q1', q2'⟩ := tup_of rb eb (by rw [← hl, q])
              exact ⟨_, _, _, _, rfl, .inr ⟨Ext.sqT hid_le q1, Ext.sqT hid_le q1', h1 _ H1 S1 (Ext.refl _) (itd_zipT q1 q2 q1' q2')⟩⟩
      · exact h1.elim
    · exact h1.elim
  · exact h1.elim
end
section
variable {X : Cx} {W : WX} {k : Nat} {tg e : Expr} {es : List Expr} {f : FE} {fa : FA} {p pos : Pos}
theorem ji_it (he : JE X W e f) : JI X W tg e (aIt f) := by
  obtain ⟨t, pe, d⟩ := he
  refine ⟨_, ⟨fun pins s σ H R I h => ?_⟩, td_it d⟩
  rcases h with h | h | h
  · exact (pi_list (tg := tg) pe).run pins s σ H R I h
  · exact (pi_tup (tg := tg) pe).run pins s σ H R I h
  · exact (pi_str (tg := tg) pe).run pins s σ H R I h
theorem ji_range1 (hm : X.mg "range" = none) (ha : JA X W [e] fa) (hg : Gl X "range" := by rfl) (hs : starEach [e] X.env = [(false, eval e X.env)] := by rfl) : JI X W tg (.Call (.Name "range" p) [e] [] pos) (aRange1 fa) := let ⟨_, q, d⟩ := ha; ⟨_, pi_range1 hg hm q hs, td_range1 d⟩
theorem ji_range2 {b : Expr} (hm : X.mg "range" = none) (ha : JA X W [e, b] fa) (hg : Gl X "range" := by rfl) (hs : starEach [e, b] X.env = [(false, eval e X.env), (false, eval b X.env)] := by rfl) (hs2 : starEach [b] X.env = [(false, eval b X.env)] := by rfl) :
    JI X W tg (.Call (.Name "range" p) [e, b] [] pos) (aRange2 fa) := let ⟨_, q, d⟩ := ha; ⟨_, pi_range2 hg hm q hs hs2, td_range2 d⟩
theorem ji_enum {elts : List Expr} {kk : Nat} {tpos : Pos} (hm : X.mg "enumerate" = none) (ha : JA X W [e] fa) (hg : Gl X "enumerate" := by rfl) (hs : starEach [e] X.env = [(false, eval e X.env)] := by rfl) :
    JI X W (.Tuple elts kk tpos) (.Call (.Name "enumerate" p) [e] [] pos) (aEnum fa) := let ⟨_, q, d⟩ := ha; ⟨_, pi_enum hg hm q hs, td_enum d⟩
theorem ji_zip {elts : List Expr} {kk : Nat} {tpos : Pos} {b : Expr} (hm : X.mg "zip" = none) (ha : JA X W [e, b] fa) (hg : Gl X "zip" := by rfl) (hs : starEach [e, b] X.env = (false, eval e X.env) :: starEach [b] X.env := by rfl) (hpl : (backTo pos (starEach [b] X.env)).any (·.1) = false := by rfl) :
    JI X W (.Tuple elts kk tpos) (.Call (.Name "zip" p) [e, b] [] pos) (aZip fa) := let ⟨_, q, d⟩ := ha; ⟨_, RZ.pi_zipA hg hm q hs hpl, td_zip d⟩
/-! targets -/
theorem jg_name (i : Nat) {x : Str} (hN : X.N.Nodup) (hi : X.N[i]? = some x := by rfl) (hx : Loc X.env.scope x := by first | exact Or.inl rfl | exact Or.inr rfl) (hf : X.fn x = true ∨ X.env.scope.names.lookup x = some .local := by first | exact .inl rfl | exact .inr rfl) : JG X (.Name x pos) [i] (gN i) :=
  ⟨_, pg_name hN hi hx hf, tdg_name⟩
theorem jgs_nil : JGs X [] [] gsNil := ⟨_, pgs_nil, tdgs_nil⟩
theorem jgs_cons {ix iy : List Nat} {g : FG} {r : FGs} (h1 : JG X e ix g) (h2 : JGs X es iy r) (hs : (assignEach (e :: es) X.env).map (·.2) = assign e X.env :: (assignEach es X.env).map (·.2) := by rfl) : JGs X (e :: es) (ix ++ iy) (gsCons g r) :=
  let ⟨_, q, d⟩ := h1; let ⟨_, q', d'⟩ := h2; ⟨_, pgs_cons q q' hs, tdgs_cons d d'⟩
theorem jg_tup {kk n : Nat} {ix : List Nat} {r : FGs} (hc : X.calm = true) (h : JGs X es ix r) (hn : (assignEach es X.env).length = n := by rfl) (hst : (assignEach es X.env).findIdx? (·.1) = none := by rfl) : JG X (.Tuple es kk pos) ix (gTupD n r) :=
  let ⟨_, q, d⟩ := h; ⟨_, L2.pg_tup hc q hn hst, tdg_tup d⟩
end
end DL

set_option maxHeartbeats 4000000
/-! DLj: comprehensions; statements; own lists. -/
namespace DL
open PySem PySem.Spec PyProof.Rows L2

/-! ### readings that hang on the data alone -/
def tK (K : PySem.W.Frag) (mg : Str → Option Value) (W : WX) (f : FE) : TE := fun σ H Q => ∃ B F pi rho mu, Sat K mg B F pi rho mu σ H ∧ ContE K mg W B F pi rho σ H Q (f rho mu)
def tKT (K : PySem.W.Frag) (mg : Str → Option Value) (W : WX) (f : FE) : TT := fun σ H Q => ∃ B F pi rho mu, Sat K mg B F pi rho mu σ H ∧ ContT K mg W B F pi rho σ H Q (f rho mu)
def tKG (K : PySem.W.Frag) (mg : Str → Option Value) (ix : List Nat) (g : FG) : TG := fun v σ H Q => ∃ B F pi rho rho1 mu d, Sat K mg B F pi rho mu σ H ∧ Rp K mg (hid F pi H) v d ∧ g d rho = some rho1 ∧
  ∀ σ', Sat K mg B F pi rho1 mu σ' H → (∀ vs : List Nat, (∀ i ∈ ix, i ∈ vs) → wipe σ' vs = wipe σ vs) → Q σ' H
section
variable {X : Cx} {W : WX} {k : Nat} {e : Expr} {f : FE} {ix : List Nat} {g : FG}
theorem JE.pe (h : JE X W e f) : PE X e (tK X.K X.mg W f) := let ⟨_, p, d⟩ := h; ⟨fun pins s σ H Q I ⟨B, F, pi, rho, mu, S, c⟩ => p.run pins s σ H Q I (d B F pi rho mu σ H Q S c)⟩
theorem JT.pt (h : JT X W e f) : PT X e (tKT X.K X.mg W f) := let ⟨_, p, d⟩ := h; ⟨fun pins s σ H Q I ⟨B, F, pi, rho, mu, S, c⟩ => p.run pins s σ H Q I (d B F pi rho mu σ H Q S c)⟩
theorem JG.pg (h : JG X e ix g) : PG X e (tKG X.K X.mg ix g) := let ⟨_, p, d⟩ := h; ⟨fun pins s σ H v u Q I r ⟨B, F, pi, rho, rho1, mu, z, S, rp, eg, c⟩ => p.run pins s σ H v u Q I r (d B F pi rho rho1 mu σ H v z Q S rp eg c)⟩
def JTs (X : Cx) (W : WX) (ifs : List Expr) (f : FE) : Prop := PTs X ifs (tKT X.K X.mg W f)
theorem jts_nil : JTs X W [] (eC (.bl true)) := ⟨fun pins s σ H Q I ⟨B, F, pi, rho, mu, S, c⟩ => pts_nil.run pins s σ H Q I (c H S (Ext.refl _))⟩
theorem jts_one (h : JT X W e f) : JTs X W [e] f := pts_one h.pt
/-- no exception leaves a comprehension's block -/
abbrev WF : WX := fun _ _ _ _ => False
theorem Ctx.blk {s : Shared} {H : Hp} {scope : Scope} {cenv : Env} {fp : List Addr} (C : Ctx X k W) : Ctx (X.blk s H scope cenv fp) k WF :=
  ⟨C.calm, C.nd, C.room, fun u s' ⟨_, _, _, _, _, _, _, _, _, _, _, _, _, _, _, _, w⟩ => w.elim⟩
end

/-! ### an object laid beside the state -/
abbrev addF (F : Addr → Bool) (D : Addr) : Addr → Bool := fun a => F a || decide (a = D)
section
variable {K : PySem.W.Frag} {mg : Str → Option Value} {W : WX} {B : Hp} {F : Addr → Bool} {pi pi1 : List (Option Addr)} {rho rho' : List Sl} {mu mu' : List D} {σ σ' : L2.St} {H H' : Hp} {p : Addr} {o o' : HO}
theorem hid_add : ∀ a, hid (addF F p) pi H a = if a = p then none else hid F pi H a := fun a => by
  by_cases e : a = p
  · subst e
    rw [if_pos rfl]
    exact hid_on (by unfold hidB; simp)
  · rw [if_neg e]
    unfold hid hidB
    simp [e]
theorem Sat.fresh (S : Sat K mg B F pi rho mu σ H) (h : H p = none) : B p = none ∧ F p = false := by
  have nB : B p = none := by
    cases q : B p with
    | none => rfl
    | some u => have := S.ext p u q; rw [h] at this; cases this
  refine ⟨nB, ?_⟩
  cases q : F p with
  | false => rfl
  | true => exact absurd nB (S.forn p q)
theorem Sat.lay (S : Sat K mg B F pi rho mu σ H) (h : H p = none) : Sat K mg (upd B p o) (addF F p) pi rho mu σ (upd H p o) ∧ hid (addF F p) pi (upd H p o) = hid F pi H := by
  have e : hid (addF F p) pi (upd H p o) = hid F pi H := by
    funext a
    rw [hid_add]
    by_cases q : a = p
    · subst q; rw [if_pos rfl]
      cases z : hid F pi H a with
      | none => rfl
      | some u => have := (hid_some z).2; rw [h] at this; cases this
    · rw [if_neg q]
      unfold hid
      rw [upd_ne q]
  refine ⟨⟨S.len, S.slen, S.inj, fun k a d h1 h2 => ?_, S.frz, fun a ha => ?_, fun a u ha => ?_, fun i d hd => ?_, S.ref⟩, e⟩
  · obtain ⟨b1, b2, u, b3, b4⟩ := S.own k a d h1 h2
    have ne : a ≠ p := fun q => by subst q; rw [h] at b3; cases b3
    refine ⟨by rw [upd_ne ne]; exact b1, by simp [b2, ne], u, by rw [upd_ne ne]; exact b3, by rw [e]; exact b4⟩
  · by_cases q : a = p
    · subst q; rw [upd_same]; simp
    · rw [upd_ne q]; exact S.forn a (by simpa [q] using ha)
  · by_cases q : a = p
    · subst q; rw [upd_same] at ha ⊢; exact ha
    · rw [upd_ne q] at ha ⊢; exact S.ext a u ha
  · obtain ⟨v, h1, h2⟩ := S.dat i d hd
    exact ⟨v, h1, by rw [e]; exact h2⟩
theorem Sat.relay (S : Sat K mg (upd B p o) (addF F p) pi rho mu σ H) : Sat K mg (upd B p o') (addF F p) pi rho mu σ (upd H p o') ∧ hid (addF F p) pi (upd H p o') = hid (addF F p) pi H := by
  have e : hid (addF F p) pi (upd H p o') = hid (addF F p) pi H := by
    funext a
    rw [hid_add, hid_add]
    by_cases q : a = p
    · rw [if_pos q, if_pos q]
    · rw [if_neg q, if_neg q]
      unfold hid
      rw [upd_ne q]
  refine ⟨⟨S.len, S.slen, S.inj, fun k a d h1 h2 => ?_, S.frz, fun a ha => ?_, fun a u ha => ?_, fun i d hd => ?_, S.ref⟩, e⟩
  · obtain ⟨b1, b2, u, b3, b4⟩ := S.own k a d h1 h2
    have ne : a ≠ p := fun q => by subst q; rw [upd_same] at b1; cases b1
    rw [upd_ne ne] at b1
    refine ⟨by rw [upd_ne ne]; exact b1, b2, u, by rw [upd_ne ne]; exact b3, by rw [e]; exact b4⟩
  · by_cases q : a = p
    · subst q; rw [upd_same]; simp
    · have := S.forn a ha
      rw [upd_ne q] at this ⊢; exact this
  · by_cases q : a = p
    · subst q; rw [upd_same] at ha ⊢; exact ha
    · rw [upd_ne q] at ha ⊢; exact S.ext a u (by rw [upd_ne q]; exact ha)
  · obtain ⟨v, h1, h2⟩ := S.dat i d hd
    exact ⟨v, h1, by rw [e]; exact h2⟩
theorem ext_add : Ext (hid (addF F p) pi H) (hid F pi H) := fun a u e => by
  rw [hid_add] at e
  split at e
  · cases e
  · exact e
theorem Sat.unlay (S : Sat K mg (upd B p o) (addF F p) pi rho mu σ H) (hB : B p = none) (hF : F p = false) : H p = some o ∧ Sat K mg B F pi rho mu σ H ∧ hidB F pi p = false := by
  have np : ∀ k : Nat, pi[k]? ≠ some (some p) := fun k e => by
    have hl : k < mu.length := by rw [← S.len]; exact (List.getElem?_eq_some_iff.mp e).1
    obtain ⟨b1, _⟩ := S.own k p mu[k] e (by simp [hl])
    rw [upd_same] at b1; cases b1
  have ex : Ext (hid (addF F p) pi H) (hid F pi H) := ext_add
  refine ⟨S.ext p o upd_same, ⟨S.len, S.slen, S.inj, fun k a d h1 h2 => ?_, S.frz, fun a ha => ?_, fun a u ha => ?_, fun i d hd => ?_, S.ref⟩, ?_⟩
  · obtain ⟨b1, b2, u, b3, b4⟩ := S.own k a d h1 h2
    have ne : a ≠ p := fun q => by subst q; exact np k h1
    rw [upd_ne ne] at b1
    refine ⟨b1, by simpa [ne] using b2, u, b3, b4.mono ex⟩
  · have ne : a ≠ p := fun q => by subst q; rw [hF] at ha; cases ha
    have := S.forn a (by simp [ha])
    rwa [upd_ne ne] at this
  · have ne : a ≠ p := fun q => by subst q; rw [hB] at ha; cases ha
    exact S.ext a u (by rw [upd_ne ne]; exact ha)
  · obtain ⟨v, h1, h2⟩ := S.dat i d hd
    exact ⟨v, h1, h2.mono ex⟩
  · unfold hidB
    rw [hF, Bool.false_or]
    cases q : pi.contains (some p) with
    | false => rfl
    | true =>
      obtain ⟨k, hk⟩ := mem_pi.mp q
      exact absurd hk (np k)
/-- other slots, that were known before -/
theorem Sat.slots (S : Sat K mg B F pi rho mu σ H) (S' : Sat K mg B F pi rho' mu' σ' H') (x : Ext (hid F pi H) (hid F pi H')) : Sat K mg B F pi rho mu' σ H' :=
  ⟨S'.len, S.slen, S.inj, S'.own, S'.frz, S.forn, S'.ext, fun i d h => let ⟨v, h1, h2⟩ := S.dat i d h; ⟨v, h1, h2.mono x⟩, S.ref⟩
/-! slots forgotten -/
def wipeS (rho : List Sl) : List Nat → List Sl
  | [] => rho
  | v :: vs => (wipeS rho vs).set v .no
theorem wipeS_length (rho : List Sl) : ∀ vs : List Nat, (wipeS rho vs).length = rho.length
  | [] => rfl
  | v :: vs => by unfold wipeS; rw [List.length_set, wipeS_length rho vs]
theorem wipeS_at {i : Nat} {s : Sl} : ∀ {vs : List Nat}, (wipeS rho vs)[i]? = some s → s = .no ∨ (rho[i]? = some s ∧ i ∉ vs)
  | [], h => .inr ⟨h, by simp⟩
  | v :: vs, h => by
    unfold wipeS at h
    by_cases e : v = i
    · subst e
      by_cases hl : v < (wipeS rho vs).length
      · rw [List.getElem?_set_self hl] at h; cases h; exact .inl rfl
      · rw [List.getElem?_eq_none (by rw [List.length_set]; omega)] at h; cases h
    · rw [List.getElem?_set_ne e] at h
      rcases wipeS_at h with q | ⟨q, z⟩
      · exact .inl q
      · exact .inr ⟨q, by simp [z]; exact fun x => e x.symm⟩
theorem Sat.wipe (S : Sat K mg B F pi rho mu σ H) (vs : List Nat) : Sat K mg B F pi (wipeS rho vs) mu (L2.wipe σ vs) H :=
  S.weak (by rw [wipeS_length, wipe_length]; exact S.slen) fun i s h => by
    rcases wipeS_at h with q | ⟨q, z⟩
    · exact .inl q
    · exact .inr ⟨q, wipe_out z⟩
theorem wipe_nones : ∀ {vs : List Nat} {i : Nat}, i ∈ vs → i < σ.length → (L2.wipe σ vs)[i]? = some none
  | [], _, h, _ => by cases h
  | v :: vs, i, h, hl => by
    unfold L2.wipe
    by_cases e : v = i
    · subst e; rw [List.getElem?_set_self (by rw [wipe_length]; exact hl)]
    · rw [List.getElem?_set_ne e]
      rcases List.mem_cons.mp h with q | q
      · exact absurd q.symm e
      · exact wipe_nones q hl
theorem wipe_idem (σ : L2.St) (vs : List Nat) : L2.wipe (L2.wipe σ vs) vs = L2.wipe σ vs := by
  apply List.ext_getElem?
  intro i
  by_cases hl : i < σ.length
  · by_cases hi : i ∈ vs
    · rw [wipe_nones hi (by rw [wipe_length]; exact hl), wipe_nones hi hl]
    · rw [wipe_out hi]
  · rw [List.getElem?_eq_none (by rw [wipe_length, wipe_length]; omega), List.getElem?_eq_none (by rw [wipe_length]; omega)]
end

/-! ### [elt for tg in it if c] -/
def lcL (g : FG) (c f : FE) : List D → List D → List Sl → List D → Rs D
  | [], acc, _, mu => .ok (.lst acc) mu
  | d :: ds, acc, rho, mu => match g d rho with
    | none => .stuck
    | some rho1 => (match c rho1 mu with
      | .ok (.bl true) mu1 => (match f rho1 mu1 with
        | .ok y mu2 => if acc.length < 16777216 then lcL g c f ds (acc ++ [y]) rho mu2 else .stuck
        | _ => .stuck)
      | .ok (.bl false) mu1 => lcL g c f ds acc rho mu1
      | _ => .stuck)
def eLc (it : FA) (g : FG) (c f : FE) (vs : List Nat) : FE := fun rho mu => (it rho mu).bind fun ds mu1 => lcL g c f ds [] (wipeS rho vs) mu1
section
variable {K : PySem.W.Frag} {mg : Str → Option Value} {W : WX}
/-- the loop of a comprehension, its list laid beside the state; fin: what is wanted at the end -/
theorem lc_loop {wi : TI} {it : FA} {g : FG} {c f : FE} {vs ix : List Nat} {B : Hp} {F : Addr → Bool} {pi : List (Option Addr)} {rho : List Sl} {mu : List D} {σ : L2.St} {H : Hp} {Q : VK} (hi : TDI K mg W wi it) (hix : ∀ i ∈ ix, i ∈ vs) (S : Sat K mg B F pi rho mu σ H)
    (herr : ∀ x mu1, it rho mu = .err x mu1 → ContI K mg W B F pi rho σ H (fun _ _ => False) (.err x mu1)) (hst : it rho mu ≠ .stuck)
    (hok : ∀ ds mu1, it rho mu = .ok ds mu1 → ∃ acc mu2, lcL g c f ds [] (wipeS rho vs) mu1 = .ok (.lst acc) mu2 ∧
      ∀ p H' o, H' p = some o → Sat K mg (upd B p o) (addF F p) pi rho mu2 σ H' → B p = none → F p = false → Ext (hid F pi H) (hid (addF F p) pi H') → RpO K mg (hid (addF F p) pi H') o (.lst acc) → Q (.ref p) H') :
    tLc wi (tKG K mg ix g) (tKT K mg WF c) (tK K mg WF f) vs σ H Q := by
  refine hi B F pi rho mu σ H _ S ?_
  cases e : it rho mu with
  | err x mu1 => exact fun cls dd H' S' e' r => herr x mu1 e cls dd H' S' e' r
  | stuck => exact absurd e hst
  | ok ds mu1 =>
    obtain ⟨accF, muF, hl, fin⟩ := hok ds mu1 e
    intro J H1 S1 x1 hJ p hp
    obtain ⟨nB, nF⟩ := S1.fresh hp
    refine ⟨fun i m H' => m = ds.length - i ∧ i ≤ ds.length ∧ ∃ mu' acc vacc, Sat K mg (upd B p (.lst vacc)) (addF F p) pi (wipeS rho vs) mu' (L2.wipe σ vs) H' ∧ Ext (hid F pi H1) (hid (addF F p) pi H') ∧ RpL K mg (hid (addF F p) pi H') vacc acc ∧
      lcL g c f (ds.drop i) acc (wipeS rho vs) mu' = .ok (.lst accF) muF, ⟨ds.length, by simp, Nat.zero_le _, mu1, [], [], ?_⟩, ?_⟩
    · obtain ⟨q1, q2⟩ := (S1.wipe vs).lay (o := .lst []) hp
      exact ⟨q1, by rw [q2]; exact Ext.refl _, .nil, by rw [List.drop_zero]; exact hl⟩
    rintro i m H' ⟨rfl, hle, mu', acc, vacc, S', x', ra, c'⟩
    obtain ⟨hstop, hgo⟩ := hJ i H' (addF F p) pi x' fun b hb => S'.new_hid hb
    by_cases hlt : i < ds.length
    · right
      have ed : ds.drop i = ds[i] :: ds.drop (i + 1) := List.drop_eq_getElem_cons hlt
      rw [ed] at c'
      obtain ⟨g1, g2⟩ := hgo ds[i] (by simp [hlt])
      refine ⟨g1, fun H2 => ∃ m', m' < ds.length - i ∧ m' = ds.length - (i + 1) ∧ i + 1 ≤ ds.length ∧ ∃ mu' acc vacc, Sat K mg (upd B p (.lst vacc)) (addF F p) pi (wipeS rho vs) mu' (L2.wipe σ vs) H2 ∧ Ext (hid F pi H1) (hid (addF F p) pi H2) ∧ RpL K mg (hid (addF F p) pi H2) vacc acc ∧
        lcL g c f (ds.drop (i + 1)) acc (wipeS rho vs) mu' = .ok (.lst accF) muF, fun H2 ⟨m', q1, q2⟩ => ⟨m', q1, q2⟩, fun xv H2 hy => ?_⟩
      obtain ⟨xe, rr⟩ := g2 xv H2 hy
      have S2 := S'.ext' xe
      have xx := S'.hext xe
      unfold lcL at c'
      cases eg : g ds[i] (wipeS rho vs) with
      | none => rw [eg] at c'; cases c'
      | some rho1 =>
        rw [eg] at c'
        simp only at c'
        refine ⟨_, _, _, _, rho1, _, _, S2, rr, eg, fun σ3 S3 hw => ⟨?_, ?_⟩⟩
        · rw [hw vs hix, wipe_idem]
        · refine ⟨_, _, _, _, _, S3, ?_⟩
          cases ec : c rho1 mu' with
          | err _ _ => rw [ec] at c'; cases c'
          | stuck => rw [ec] at c'; cases c'
          | ok b mu3 =>
            rw [ec] at c'
            cases b with
            | bl b =>
              cases b with
              | false =>
                intro H3 S4 x4
                rw [if_neg Bool.false_ne_true]
                exact ⟨ds.length - (i + 1), by omega, rfl, hlt, mu3, acc, vacc, S'.slots S4 (xx.trans x4), x'.trans (xx.trans x4), ra.mono (xx.trans x4), c'⟩
              | true =>
                intro H3 S4 x4
                rw [if_pos rfl]
                refine ⟨_, _, _, _, _, S4, ?_⟩
                simp only at c'
                cases ef : f rho1 mu3 with
                | err _ _ => rw [ef] at c'; cases c'
                | stuck => rw [ef] at c'; cases c'
                | ok y mu4 =>
                  rw [ef] at c'
                  simp only at c'
                  split at c'
                  · rename_i hacc
                    intro v H4 S5 x5 r5
                    have ext4 : Ext (hid (addF F p) pi H') (hid (addF F p) pi H4) := xx.trans (x4.trans x5)
                    refine ⟨vacc, S5.ext p _ upd_same, by rw [ra.length, sizeLine_eq]; exact hacc, ds.length - (i + 1), by omega, rfl, hlt, mu4, acc ++ [y], vacc ++ [v], ?_⟩
                    obtain ⟨z1, z2⟩ := (S'.slots S5 ext4).relay (o' := .lst (vacc ++ [v]))
                    refine ⟨z1, ?_, ?_, c'⟩
                    · rw [z2]; exact x'.trans ext4
                    · rw [z2]; exact (ra.mono ext4).snoc r5
                  · cases c'
            | _ => cases c'
    · left
      have ed : ds.drop i = [] := List.drop_eq_nil_of_le (by omega)
      rw [ed] at c'
      cases c'
      refine ⟨hstop (by omega), fin p H' (.lst vacc) (S'.ext p _ upd_same) ?_ nB nF (x1.trans x') (.lst ra)⟩
      have S1' := (S1.lay (o := .lst vacc) hp)
      have Z : Sat K mg (upd B p (.lst vacc)) (addF F p) pi rho mu1 σ (upd H1 p (.lst vacc)) := S1'.1
      exact Z.slots S' (by rw [S1'.2]; exact x')
theorem td_lc {wi : TI} {it : FA} {g : FG} {c f : FE} {vs ix : List Nat} (hi : TDI K mg W wi it) (hix : ∀ i ∈ ix, i ∈ vs) : TD K mg W (tLc wi (tKG K mg ix g) (tKT K mg WF c) (tK K mg WF f) vs) (eLc it g c f vs) := by
  intro B F pi rho mu σ H Q S h
  refine lc_loop hi hix S (fun x mu1 e => ?_) (fun e => ?_) (fun ds mu1 e => ?_)
  · have h : ContE K mg W B F pi rho σ H Q ((it rho mu).bind fun ds mu1 => lcL g c f ds [] (wipeS rho vs) mu1) := h
    rw [e] at h; exact h
  · have h : ContE K mg W B F pi rho σ H Q ((it rho mu).bind fun ds mu1 => lcL g c f ds [] (wipeS rho vs) mu1) := h
    rw [e] at h; exact h
  · have h : ContE K mg W B F pi rho σ H Q ((it rho mu).bind fun ds mu1 => lcL g c f ds [] (wipeS rho vs) mu1) := h
    rw [e] at h
    have h : ContE K mg W B F pi rho σ H Q (lcL g c f ds [] (wipeS rho vs) mu1) := h
    have key : ∀ (ds acc : List D) (mu : List D), (∃ acc' mu2, lcL g c f ds acc (wipeS rho vs) mu = .ok (.lst acc') mu2) ∨ lcL g c f ds acc (wipeS rho vs) mu = .stuck := fun ds => by
      induction ds with
      | nil => intro acc mu; exact .inl ⟨acc, mu, rfl⟩
      | cons d ds ih =>
        intro acc mu
        unfold lcL
        split
        · exact .inr rfl
        · split
          · split
            · split
              · exact ih _ _
              · exact .inr rfl
            · exact .inr rfl
          · exact ih _ _
          · exact .inr rfl
    rcases key ds [] mu1 with ⟨acc, mu2, q⟩ | q
    · rw [q] at h
      refine ⟨acc, mu2, q, fun p H' o ho S' nB nF x r => ?_⟩
      obtain ⟨_, S2, hp⟩ := S'.unlay nB nF
      exact h (.ref p) H' S2 (x.trans ext_add) ((r.mono ext_add).rp (by rw [hid_of hp]; exact ho))
    · rw [q] at h; exact h.elim
end
section
variable {X : Cx} {W : WX} {k : Nat} {elt tg iter : Expr} {ifs : List Expr} {scope : Scope} {own : List (Str × Nat)} {pos spos : Pos} {it : FA} {g : FG} {c f : FE} {ix : List Nat}
theorem je_lc (C : Ctx X k W) (own : List (Str × Nat)) (hi : JI X W tg iter it) (hg : ∀ (s : Shared) (H : Hp) (L : Addr) (cl : List (Str × Addr)) (fp : List Addr), JG (X.blk s H scope (compEnvC scope cl L X.env) fp) tg ix g)
    (ht : ∀ (s : Shared) (H : Hp) (L : Addr) (cl : List (Str × Addr)) (fp : List Addr), JTs (X.blk s H scope (compEnvC scope cl L X.env) fp) WF ifs c)
    (he : ∀ (s : Shared) (H : Hp) (L : Addr) (cl : List (Str × Addr)) (fp : List Addr), JE (X.blk s H scope (compEnvC scope cl L X.env) fp) WF elt f)
    (ok : blkC X.N X.env.scope scope own = true := by rfl) (hix : (ix.all fun i => (own.map (·.2)).contains i) = true := by rfl) (hs : ∀ x, foldedSetIterable iter X.env x = pure x := by intro _; rfl) :
    JE X W (.ListComp elt [⟨tg, iter, ifs, 0⟩] scope pos) (eLc it g c f (own.map (·.2))) := by
  obtain ⟨wi, pi, di⟩ := hi
  exact ⟨_, pe_lc (g := tKG X.K X.mg ix g) (tt := tKT X.K X.mg WF c) (te := tK X.K X.mg WF f) C.calm C.nd pi (blkOk_by ok) (fun s H L cl fp => (hg s H L cl fp).pg) (fun s H L cl fp => ht s H L cl fp) (fun s H L cl fp => (he s H L cl fp).pe) hs, td_lc di fun i h => by simpa using List.all_eq_true.mp hix i h⟩
/-- y = [..], y a local that no block captures -/
theorem js_lc (C : Ctx X k W) (own : List (Str × Nat)) {i : Nat} {y : Str} {py : Pos} (hi : JI X W tg iter it) (hg : ∀ (s : Shared) (H : Hp) (L : Addr) (cl : List (Str × Addr)) (fp : List Addr), JG (X.blk s H scope (compEnvC scope cl L X.env) fp) tg ix g)
    (ht : ∀ (s : Shared) (H : Hp) (L : Addr) (cl : List (Str × Addr)) (fp : List Addr), JTs (X.blk s H scope (compEnvC scope cl L X.env) fp) WF ifs c)
    (he : ∀ (s : Shared) (H : Hp) (L : Addr) (cl : List (Str × Addr)) (fp : List Addr), JE (X.blk s H scope (compEnvC scope cl L X.env) fp) WF elt f)
    (hy : X.N[i]? = some y := by rfl) (hyl : X.env.scope.names.lookup y = some .local := by rfl) (hk : X.env.scope.kind = .function := by rfl) (hl : (py.line == pos.line) = true := by rfl) (ha : (scope.names.any fun (n, k) => n == y && (k == .local || k == .cell)) = false := by rfl)
    (ok : blkC X.N X.env.scope scope own = true := by rfl) (hix : (ix.all fun i => (own.map (·.2)).contains i) = true := by rfl) (hs : ∀ x, foldedSetIterable iter X.env x = pure x := by intro _; rfl) :
    JS X W (.Assign [.Name y py] (.ListComp elt [⟨tg, iter, ifs, 0⟩] scope pos) spos) (sSet i (eLc it g c f (own.map (·.2)))) := by
  obtain ⟨wi, pi, di⟩ := hi
  exact ⟨_, ps_setLc (g := tKG X.K X.mg ix g) (tt := tKT X.K X.mg WF c) (te := tK X.K X.mg WF f) C.calm C.nd hy hyl (sw_true hk hyl hl ha) pi (blkOk_by ok) (fun s H L cl fp => (hg s H L cl fp).pg) (fun s H L cl fp => ht s H L cl fp) (fun s H L cl fp => (he s H L cl fp).pe) hs, tds_set (td_lc di fun i h => by simpa using List.all_eq_true.mp hix i h)⟩
end
end DL

set_option maxHeartbeats 4000000
/-! DLk: statements; new own lists and what is done to them. -/
namespace DL
open PySem PySem.Spec PyProof.Rows L2

section
variable {X : Cx} {W : WX} {k : Nat} {e : Expr} {f c : FE} {pos : Pos} {st : Stmt} {sts a b : List Stmt} {s s' : FS}
theorem jss_nil : JSs X W [] sNx := ⟨_, pss_nil, tds_next⟩
theorem jss_one (h : JS X W st s) : JSs X W [st] s := let ⟨_, p, d⟩ := h; ⟨_, pss_one p, d⟩
theorem jss_cons (h : JS X W st s) (r : JSs X W sts s') : JSs X W (st :: sts) (sSeq s s') := let ⟨_, p, d⟩ := h; let ⟨_, q, d'⟩ := r; ⟨_, pss_cons p q, tds_seq d d'⟩
theorem jss_frz (i : Nat) (h : JSs X W sts s) : JSs X W sts (sFrz i s) := let ⟨_, p, d⟩ := h; ⟨_, p, tds_frz d⟩
theorem js_frz (i : Nat) (h : JS X W st s) : JS X W st (sFrz i s) := let ⟨_, p, d⟩ := h; ⟨_, p, tds_frz d⟩
theorem js_never : JS X W st sNever := ⟨_, ps_never, tds_nev⟩
theorem jss_never : JSs X W sts sNever := ⟨_, pss_never, tds_nev⟩
theorem js_pass : JS X W (.Pass pos) sNx := ⟨_, ps_pass, tds_next⟩
theorem js_break : JS X W (.Break pos) sBreak := ⟨_, ps_break, tds_break⟩
theorem js_cont : JS X W (.Continue pos) sCont := ⟨_, ps_continue, tds_cont⟩
theorem js_ret (h : JE X W e f) : JS X W (.Return (some e) pos) (sRet f) := let ⟨_, p, d⟩ := h; ⟨_, ps_ret p, tds_ret d⟩
theorem js_retN : JS X W (.Return none pos) sRetN := ⟨_, ps_retN, tds_retN⟩
theorem js_if {ce : Expr} (hc : JT X W ce c) (ha : JSs X W a s) (hb : JSs X W b s') : JS X W (.If ce a b pos) (sIf c s s') := let ⟨_, p, d⟩ := hc; let ⟨_, q, d'⟩ := ha; let ⟨_, r, d2⟩ := hb; ⟨_, ps_if p q r, tds_if d d' d2⟩
theorem js_drop (h : JE X W e f) (hs : swapsWith e none pos.line X.env = pure false := by rfl) : JS X W (.Expr e pos) (sDrop f) := let ⟨_, p, d⟩ := h; ⟨_, ps_expr p hs, tds_drop d⟩
theorem js_set (C : Ctx X k W) {x : Str} {pos' : Pos} (i : Nat) (he : JE X W e f) (hi : X.N[i]? = some x := by rfl) (hx : Loc X.env.scope x := by first | exact Or.inl rfl | exact Or.inr rfl) (hs : swapsWith e (some (.Name x pos')) pos.line X.env = pure false := by rfl)
    (hf : X.fn x = true ∨ X.env.scope.names.lookup x = some .local := by first | exact .inl rfl | exact .inr rfl) : JS X W (.Assign [.Name x pos'] e pos) (sSet i f) := let ⟨_, p, d⟩ := he; ⟨_, ps_set C.nd hi hx p hs hf, tds_set d⟩
theorem js_tgt {tg : Expr} {ix : List Nat} {g : FG} (he : JE X W e f) (hg : JG X tg ix g) (hs : swapsWithSole [tg] e pos.line X.env = pure false := by rfl) (hw : swappedStores [tg] e X.env = pure none := by rfl)
    (h1 : (assignEach [tg] X.env).map (·.2) = [assign tg X.env] := by rfl) : JS X W (.Assign [tg] e pos) (sTgt f g) := let ⟨_, p, d⟩ := he; let ⟨_, q, d'⟩ := hg; ⟨_, ps_asg p q hs hw h1, tds_tgt d d'⟩
theorem js_aug {x : Str} {pos' : Pos} {op : Operator} {g : Int → Int → Int} (C : Ctx X k W) (i : Nat) (hp : PIp X op (ipI g)) (he : JE X W e f) (hi : X.N[i]? = some x := by rfl) (hx : Loc X.env.scope x := by first | exact Or.inl rfl | exact Or.inr rfl)
    (hf : X.fn x = true ∨ X.env.scope.names.lookup x = some .local := by first | exact .inl rfl | exact .inr rfl) : JS X W (.AugAssign (.Name x pos') op e pos) (sAug i g f) := let ⟨_, p, d⟩ := he; ⟨_, ps_aug C.nd hi hx p hp hf, tds_aug d⟩
theorem js_augAdd {x : Str} {pos' : Pos} (C : Ctx X k W) (i : Nat) (he : JE X W e f) (hi : X.N[i]? = some x := by rfl) (hx : Loc X.env.scope x := by first | exact Or.inl rfl | exact Or.inr rfl)
    (hf : X.fn x = true ∨ X.env.scope.names.lookup x = some .local := by first | exact .inl rfl | exact .inr rfl) : JS X W (.AugAssign (.Name x pos') .Add e pos) (sAug i (fun i j => i + j) f) := js_aug C i ip_add he hi hx hf
theorem js_augSub {x : Str} {pos' : Pos} (C : Ctx X k W) (i : Nat) (he : JE X W e f) (hi : X.N[i]? = some x := by rfl) (hx : Loc X.env.scope x := by first | exact Or.inl rfl | exact Or.inr rfl)
    (hf : X.fn x = true ∨ X.env.scope.names.lookup x = some .local := by first | exact .inl rfl | exact .inr rfl) : JS X W (.AugAssign (.Name x pos') .Sub e pos) (sAug i (fun i j => i - j) f) := js_aug C i ip_sub he hi hx hf
theorem js_for {tg iter : Expr} {it : FA} {ix : List Nat} {g : FG} (C : Ctx X k W) (O : Own X) (hi : JI X W tg iter it) (hg : JG X tg ix g) (hb : JSs X W b s) (hs : ∀ x, foldedSetIterable iter X.env x = pure x := by intro _; rfl) : JS X W (.For tg iter b [] pos) (sFor it g s) :=
  let ⟨_, p, d⟩ := hi; let ⟨_, q, d'⟩ := hg; let ⟨_, r, d2⟩ := hb; ⟨_, ps_for O C.calm p q r hs, tds_for d d' d2⟩
theorem js_while {ce : Expr} (O : Own X) (n : Nat) (hc : JT X W ce c) (hb : JSs X W b s) : JS X W (.While ce b [] pos) (sWhile c s n) := let ⟨_, p, d⟩ := hc; let ⟨_, q, d'⟩ := hb; ⟨_, ps_while O p q, tds_while n d d'⟩
end

/-! ### fresh objects -/
section
variable (K : PySem.W.Frag) (mg : Str → Option Value) (W : WX)
def ContN (B : Hp) (F : Addr → Bool) (pi : List (Option Addr)) (rho : List Sl) (σ : L2.St) (H : Hp) (Q : VK) : Rs D → Prop
  | .ok d mu => ∀ p H', Sat K mg B F (pi ++ [some p]) rho (mu ++ [d]) σ H' → Ext (hid F pi H) (hid F (pi ++ [some p]) H') → Q (.ref p) H'
  | .err x mu => ∀ cls dd H', Sat K mg B F pi rho mu σ H' → Ext (hid F pi H) (hid F pi H') → RpX K mg (hid F pi H') cls dd x → W cls dd σ H'
  | .stuck => False
/-- the value is a new object -/
def TDN (t : TE) (f : FE) : Prop := ∀ (B : Hp) (F : Addr → Bool) (pi : List (Option Addr)) (rho : List Sl) (mu : List D) (σ : L2.St) (H : Hp) (Q : VK),
  Sat K mg B F pi rho mu σ H → ContN K mg W B F pi rho σ H Q (f rho mu) → t σ H Q
end
def JN (X : Cx) (W : WX) (e : Expr) (f : FE) : Prop := ∃ t, PE X e t ∧ TDN X.K X.mg W t f
section
variable {K : PySem.W.Frag} {mg : Str → Option Value} {W : WX} {B : Hp} {F : Addr → Bool} {pi pi1 : List (Option Addr)} {rho rho' : List Sl} {mu mu' : List D} {σ σ' : L2.St} {H H' H1 : Hp} {p : Addr} {o o' : HO}
theorem ContN.up {Q : VK} (e : Ext (hid F pi H) (hid F pi H1)) : ∀ {r : Rs D}, ContN K mg W B F pi rho σ H Q r → ContN K mg W B F pi rho σ H1 Q r
  | .ok _ _, h => fun v H' S e' => h v H' S (e.trans e')
  | .err _ _, h => fun c d H' S e' r => h c d H' S (e.trans e') r
  | .stuck, h => h
theorem TDA.bindN {t : TA} {f : FA} {k : List D → List D → Rs D} {Q : VK} {Q' : List V → Hp → Prop} (ht : TDA K mg W t f) (S : Sat K mg B F pi rho mu σ H) (h : ContN K mg W B F pi rho σ H Q ((f rho mu).bind k))
    (go : ∀ d mu1 v H1, Sat K mg B F pi rho mu1 σ H1 → Ext (hid F pi H) (hid F pi H1) → RpL K mg (hid F pi H1) v d → ContN K mg W B F pi rho σ H1 Q (k d mu1) → Q' v H1) : t σ H Q' := by
  refine ht B F pi rho mu σ H Q' S ?_
  cases e : f rho mu with
  | ok d mu1 => rw [e] at h; exact fun v H' S' e' r => go d mu1 v H' S' e' r (h.up e')
  | err x mu1 => rw [e] at h; exact h
  | stuck => rw [e] at h; exact h
theorem tdn_lst {ta : TA} {f : FA} (ha : TDA K mg W ta f) : TDN K mg W (tLst ta) (eA gLst f) := by
  intro B F pi rho mu σ H Q S h
  show ta σ H _
  refine TDA.bindN ha S h fun d mu1 v H1 S1 x1 r1 h1 => ?_
  have h1 : ContN K mg W B F pi rho σ H1 Q (Rs.ofO (gLst d) mu1) := h1
  unfold gLst at h1
  split at h1
  · rename_i hl
    refine ⟨by rw [r1.length]; exact line_of hl, fun p hp => ?_⟩
    obtain ⟨z1, z2⟩ := S1.push hp (.lst r1)
    exact h1 p _ z1 z2
  · exact h1.elim
/-- what was laid beside becomes own -/
theorem Sat.own_lay {d : D} (S : Sat K mg (upd B p o) (addF F p) pi rho mu σ H) (hB : B p = none) (hF : F p = false) (r : RpO K mg (hid (addF F p) pi H) o d) : Sat K mg B F (pi ++ [some p]) rho (mu ++ [d]) σ H ∧ hid F (pi ++ [some p]) H = hid (addF F p) pi H := by
  obtain ⟨ho, S0, hp⟩ := S.unlay hB hF
  have hh : ∀ a, hidB F (pi ++ [some p]) a = hidB (addF F p) pi a := fun a => by
    unfold hidB addF
    have e : (pi ++ [some p]).contains (some a) = (pi.contains (some a) || decide (a = p)) := by
      rw [Bool.eq_iff_iff, Bool.or_eq_true, List.contains_iff_mem, List.contains_iff_mem, decide_eq_true_eq, List.mem_append, List.mem_singleton, Option.some.injEq]
    rw [e]
    cases F a <;> cases pi.contains (some a) <;> simp
  have e : hid F (pi ++ [some p]) H = hid (addF F p) pi H := by
    funext a; unfold hid; rw [hh a]
  have np : ∀ k : Nat, pi[k]? ≠ some (some p) := fun k q => by
    have := mem_pi.mpr ⟨k, q⟩
    unfold hidB at hp
    rw [this] at hp; simp at hp
  have sp : ∀ (i : Nat) (a : Addr), (pi ++ [some p])[i]? = some (some a) → pi[i]? = some (some a) ∨ (i = pi.length ∧ a = p) := fun i a q => by
    by_cases hi : i < pi.length
    · rw [List.getElem?_append_left hi] at q; exact .inl q
    · rw [List.getElem?_append_right (by omega)] at q
      have hz : i - pi.length = 0 := by
        have := (List.getElem?_eq_some_iff.mp q).1
        simp at this; omega
      rw [hz] at q
      simp at q
      exact .inr ⟨by omega, q.symm⟩
  refine ⟨⟨by simp [S.len], S.slen, fun i j a h1 h2 => ?_, fun k a d' h1 h2 => ?_, fun k h => ?_, S0.forn, S0.ext, fun i d' h => ?_, fun i k h => ?_⟩, e⟩
  · rcases sp i a h1 with q1 | ⟨q1, z1⟩ <;> rcases sp j a h2 with q2 | ⟨q2, z2⟩
    · exact S.inj i j a q1 q2
    · subst z2; exact absurd q1 (np i)
    · subst z1; exact absurd q2 (np j)
    · omega
  · rcases sp k a h1 with q | ⟨q, z⟩
    · have hk := (List.getElem?_eq_some_iff.mp q).1
      rw [List.getElem?_append_left (by rw [← S.len]; exact hk)] at h2
      obtain ⟨b1, b2, u, b3, b4⟩ := S0.own k a d' q h2
      obtain ⟨_, _, u', b3', b4'⟩ := S.own k a d' q h2
      rw [b3] at b3'; cases b3'
      exact ⟨b1, b2, u, b3, by rw [e]; exact b4'⟩
    · subst q z
      rw [S.len, List.getElem?_append_right (Nat.le_refl _)] at h2
      simp at h2; subst h2
      exact ⟨hB, hF, o, ho, by rw [e]; exact r⟩
  · by_cases hk : k < pi.length
    · rw [List.getElem?_append_left hk] at h
      rw [List.getElem?_append_left (by rw [← S.len]; exact hk)]
      exact S.frz k h
    · rw [List.getElem?_append_right (by omega)] at h
      have := (List.getElem?_eq_some_iff.mp h).1
      have hz : k - pi.length = 0 := by simp at this; omega
      rw [hz] at h; simp at h
  · obtain ⟨v, h1, h2⟩ := S.dat i d' h
    exact ⟨v, h1, by rw [e]; exact h2⟩
  · obtain ⟨a, h1, h2⟩ := S.ref i k h
    exact ⟨a, by rw [List.getElem?_append_left (List.getElem?_eq_some_iff.mp h1).1]; exact h1, h2⟩
theorem lcL_key {g : FG} {c f : FE} {rho : List Sl} : ∀ (ds acc : List D) (mu : List D), (∃ acc' mu2, lcL g c f ds acc rho mu = .ok (.lst acc') mu2) ∨ lcL g c f ds acc rho mu = .stuck := fun ds => by
  induction ds with
  | nil => intro acc mu; exact .inl ⟨acc, mu, rfl⟩
  | cons d ds ih =>
    intro acc mu
    unfold lcL
    split
    · exact .inr rfl
    · split
      · split
        · split
          · exact ih _ _
          · exact .inr rfl
        · exact .inr rfl
      · exact ih _ _
      · exact .inr rfl
theorem tdn_lc {wi : TI} {it : FA} {g : FG} {c f : FE} {vs ix : List Nat} (hi : TDI K mg W wi it) (hix : ∀ i ∈ ix, i ∈ vs) : TDN K mg W (tLc wi (tKG K mg ix g) (tKT K mg WF c) (tK K mg WF f) vs) (eLc it g c f vs) := by
  intro B F pi rho mu σ H Q S h
  have h : ContN K mg W B F pi rho σ H Q ((it rho mu).bind fun ds mu1 => lcL g c f ds [] (wipeS rho vs) mu1) := h
  refine lc_loop hi hix S (fun x mu1 e => ?_) (fun e => ?_) (fun ds mu1 e => ?_)
  · rw [e] at h; exact h
  · rw [e] at h; exact h
  · rw [e] at h
    have h : ContN K mg W B F pi rho σ H Q (lcL g c f ds [] (wipeS rho vs) mu1) := h
    rcases lcL_key ds [] mu1 with ⟨acc, mu2, q⟩ | q
    · rw [q] at h
      refine ⟨acc, mu2, q, fun p H' o ho S' nB nF x r => ?_⟩
      obtain ⟨z1, z2⟩ := S'.own_lay nB nF r
      exact h p H' z1 (by rw [z2]; exact x)
    · rw [q] at h; exact h.elim
/-- a new object as data -/
theorem TDN.td {t : TE} {f : FE} (h : TDN K mg W t f) : TD K mg W t f := by
  intro B F pi rho mu σ H Q S c
  refine h B F pi rho mu σ H Q S ?_
  cases e : f rho mu with
  | ok d mu1 =>
    rw [e] at c
    intro p H' S' x
    obtain ⟨z1, z2, z3⟩ := S'.pop fun i k hk => by
      obtain ⟨a, h1, _⟩ := S.ref i k hk
      exact (List.getElem?_eq_some_iff.mp h1).1
    exact c (.ref p) H' z1 (x.trans z2) z3
  | err x mu1 => rw [e] at c; exact c
  | stuck => rw [e] at c; exact c
def sNew (i : Nat) (f : FE) : FS := fun rho mu => rBind (f rho mu) rho fun d mu1 => .nx (rho.set i (.own mu1.length)) (mu1 ++ [d])
theorem tds_new {te : TE} {f : FE} {i : Nat} (he : TDN K mg W te f) : TDS K mg W (tAsg te (gName i)) (sNew i f) := by
  intro B F pi rho mu σ H Dn S h
  refine he B F pi rho mu σ H _ S ?_
  unfold sNew at h
  cases e : f rho mu with
  | ok d mu1 =>
    rw [e] at h
    intro p H' S' x
    have hl : pi.length = mu1.length := by have := S'.len; simp at this; exact this
    exact h (pi ++ [some p]) _ H' (PiExt.snoc pi (some p)) (S'.setOwn (by rw [← hl]; simp)) x
  | err x mu1 => rw [e] at h; exact fun c dd H' S' e' r => h pi c dd σ H' (PiExt.refl _) S' e' r
  | stuck => rw [e] at h; exact h
/-! a, b = x, y: data, new objects -/
abbrev FX := List Sl → List D → Rs (List Sl)
def xNil : FX := fun _ mu => .ok [] mu
def xDat (f : FE) (r : FX) : FX := fun rho mu => (f rho mu).bind fun d mu1 => (r rho mu1).bind fun ss mu2 => .ok (.dat d :: ss) mu2
def xNew (f : FE) (r : FX) : FX := fun rho mu => (f rho mu).bind fun d mu1 => (r rho (mu1 ++ [d])).bind fun ss mu2 => .ok (.own mu1.length :: ss) mu2
def sParX (i j : Nat) (f : FX) : FS := fun rho mu => rBind (f rho mu) rho fun ss mu1 => match ss with
  | [a, b] => .nx ((rho.set i a).set j b) mu1
  | _ => .stuck
def sParX3 (i j l : Nat) (f : FX) : FS := fun rho mu => rBind (f rho mu) rho fun ss mu1 => match ss with
  | [a, b, c] => .nx (((rho.set i a).set j b).set l c) mu1
  | _ => .stuck
variable (K mg W) in
def ContX (B : Hp) (F : Addr → Bool) (pi : List (Option Addr)) (rho : List Sl) (σ : L2.St) (H : Hp) (Q : List V → Hp → Prop) : Rs (List Sl) → Prop
  | .ok ss mu => ∀ pi' vs H', PiExt pi pi' → (∀ (k : Nat) (a : Addr), pi[k]? = some (some a) → pi'[k]? = some (some a)) → Sat K mg B F pi' rho mu σ H' → Ext (hid F pi H) (hid F pi' H') → ArgsR K mg F pi' H' vs ss → Q vs H'
  | .err x mu => ∀ pi' cls dd H', PiExt pi pi' → Sat K mg B F pi' rho mu σ H' → Ext (hid F pi H) (hid F pi' H') → RpX K mg (hid F pi' H') cls dd x → W cls dd σ H'
  | .stuck => False
variable (K mg W) in
def TDX (t : TA) (f : FX) : Prop := ∀ (B : Hp) (F : Addr → Bool) (pi : List (Option Addr)) (rho : List Sl) (mu : List D) (σ : L2.St) (H : Hp) (Q : List V → Hp → Prop),
  Sat K mg B F pi rho mu σ H → ContX K mg W B F pi rho σ H Q (f rho mu) → t σ H Q
theorem tdx_nil : TDX K mg W tNil xNil := fun B F pi rho mu σ H Q S h => h pi [] H (PiExt.refl _) (fun _ _ h => h) S (Ext.refl _) .nil
theorem ArgR.grow {v : V} {s : Sl} (hp : ∀ (k : Nat) (a : Addr), pi[k]? = some (some a) → pi1[k]? = some (some a)) (e : Ext (hid F pi H) (hid F pi1 H')) (h : ArgR K mg F pi H v s) : ArgR K mg F pi1 H' v s := by
  cases h with
  | dat r => exact .dat (r.mono e)
  | own h => exact .own (hp _ _ h)
theorem tdx_dat {te : TE} {tr : TA} {f : FE} {r : FX} (he : TD K mg W te f) (hr : TDX K mg W tr r) : TDX K mg W (tCons te tr) (xDat f r) := by
  intro B F pi rho mu σ H Q S h
  have h : ContX K mg W B F pi rho σ H Q ((f rho mu).bind fun d mu1 => (r rho mu1).bind fun ss mu2 => .ok (.dat d :: ss) mu2) := h
  refine he B F pi rho mu σ H _ S ?_
  cases e : f rho mu with
  | ok d mu1 =>
    rw [e] at h
    have h : ContX K mg W B F pi rho σ H Q ((r rho mu1).bind fun ss mu2 => .ok (.dat d :: ss) mu2) := h
    intro v H1 S1 x1 r1
    refine hr B F pi rho mu1 σ H1 _ S1 ?_
    cases e2 : r rho mu1 with
    | ok ss mu2 =>
      rw [e2] at h
      exact fun pi' vs H' p hp S' x' ra => h pi' (v :: vs) H' p hp S' (x1.trans x') (.cons (ArgR.grow hp x' (.dat r1)) ra)
    | err z mu2 => rw [e2] at h; exact fun pi' cls dd H' p S' x' rx => h pi' cls dd H' p S' (x1.trans x') rx
    | stuck => rw [e2] at h; exact h
  | err z mu1 => rw [e] at h; exact fun cls dd H' S' x' rx => h pi cls dd H' (PiExt.refl _) S' x' rx
  | stuck => rw [e] at h; exact h
theorem tdx_new {te : TE} {tr : TA} {f : FE} {r : FX} (he : TDN K mg W te f) (hr : TDX K mg W tr r) : TDX K mg W (tCons te tr) (xNew f r) := by
  intro B F pi rho mu σ H Q S h
  have h : ContX K mg W B F pi rho σ H Q ((f rho mu).bind fun d mu1 => (r rho (mu1 ++ [d])).bind fun ss mu2 => .ok (.own mu1.length :: ss) mu2) := h
  refine he B F pi rho mu σ H _ S ?_
  cases e : f rho mu with
  | ok d mu1 =>
    rw [e] at h
    have h : ContX K mg W B F pi rho σ H Q ((r rho (mu1 ++ [d])).bind fun ss mu2 => .ok (.own mu1.length :: ss) mu2) := h
    intro p H1 S1 x1
    have hl : pi.length = mu1.length := by have := S1.len; simp at this; exact this
    have g0 : ∀ (k : Nat) (a : Addr), pi[k]? = some (some a) → (pi ++ [some p])[k]? = some (some a) := fun k a e => by rw [List.getElem?_append_left (List.getElem?_eq_some_iff.mp e).1]; exact e
    refine hr B F (pi ++ [some p]) rho (mu1 ++ [d]) σ H1 _ S1 ?_
    cases e2 : r rho (mu1 ++ [d]) with
    | ok ss mu2 =>
      rw [e2] at h
      exact fun pi' vs H' q hq S' x' ra => h pi' (.ref p :: vs) H' ((PiExt.snoc pi (some p)).trans q) (fun k a z => hq k a (g0 k a z)) S' (x1.trans x') (.cons (.own (hq _ _ (by rw [← hl]; simp))) ra)
    | err z mu2 => rw [e2] at h; exact fun pi' cls dd H' q S' x' rx => h pi' cls dd H' ((PiExt.snoc pi (some p)).trans q) S' (x1.trans x') rx
    | stuck => rw [e2] at h; exact h
  | err z mu1 => rw [e] at h; exact fun cls dd H' S' x' rx => h pi cls dd H' (PiExt.refl _) S' x' rx
  | stuck => rw [e] at h; exact h
theorem Sat.setSl (S : Sat K mg B F pi rho mu σ H) {i : Nat} {v : V} {s : Sl} (r : ArgR K mg F pi H v s) : Sat K mg B F pi (rho.set i s) mu (σ.set i (some v)) H := by
  cases r with
  | dat r => exact S.set r
  | own h => exact S.setOwn h
theorem tds_parX {ta : TA} {f : FX} {i j : Nat} (ha : TDX K mg W ta f) : TDS K mg W (tPar i j ta) (sParX i j f) := by
  intro B F pi rho mu σ H Dn S h
  unfold sParX at h
  refine ha B F pi rho mu σ H _ S ?_
  cases e : f rho mu with
  | ok ss mu1 =>
    rw [e] at h
    intro pi' vs H' p hp S' x' ra
    cases ra with
    | nil => exact h.elim
    | cons a r =>
      cases r with
      | nil => exact h.elim
      | cons b r =>
        cases r with
        | nil => exact ⟨_, _, rfl, h pi' _ H' p ((S'.setSl a).setSl b) x'⟩
        | cons _ _ => exact h.elim
  | err z mu1 => rw [e] at h; exact fun pi' cls dd H' p S' x' rx => h pi' cls dd σ H' p S' x' rx
  | stuck => rw [e] at h; exact h
theorem tds_parX3 {ta : TA} {f : FX} {i j l : Nat} (ha : TDX K mg W ta f) : TDS K mg W (tPar3 i j l ta) (sParX3 i j l f) := by
  intro B F pi rho mu σ H Dn S h
  unfold sParX3 at h
  refine ha B F pi rho mu σ H _ S ?_
  cases e : f rho mu with
  | ok ss mu1 =>
    rw [e] at h
    intro pi' vs H' p hp S' x' ra
    cases ra with
    | nil => exact h.elim
    | cons a r =>
      cases r with
      | nil => exact h.elim
      | cons b r =>
        cases r with
        | nil => exact h.elim
        | cons c r =>
          cases r with
          | nil => exact ⟨_, _, _, rfl, h pi' _ H' p (((S'.setSl a).setSl b).setSl c) x'⟩
          | cons _ _ => exact h.elim
  | err z mu1 => rw [e] at h; exact fun pi' cls dd H' p S' x' rx => h pi' cls dd σ H' p S' x' rx
  | stuck => rw [e] at h; exact h
/-! ### own lists: read and changed -/
def listAt (rho : List Sl) (mu : List D) (i : Nat) : Option (Nat × List D) := match rho[i]? with
  | some (.own k) => (match mu[k]? with
    | some (.lst xs) => some (k, xs)
    | _ => none)
  | _ => none
theorem Sat.list_at (S : Sat K mg B F pi rho mu σ H) {i k : Nat} {xs : List D} (h : listAt rho mu i = some (k, xs)) : ∃ a vs, pi[k]? = some (some a) ∧ σ[i]? = some (some (.ref a)) ∧ H a = some (.lst vs) ∧ RpL K mg (hid F pi H) vs xs := by
  unfold listAt at h
  split at h
  · rename_i k' e
    split at h
    · rename_i ys e2
      cases h
      obtain ⟨a, h1, h2⟩ := S.ref i _ e
      obtain ⟨_, _, o, h3, h4⟩ := S.own _ a _ h1 e2
      cases h4 with
      | lst r => exact ⟨a, _, h1, h2, h3, r⟩
    · cases h
  · cases h
/-- the same list behind an expression: the name's slot does not move -/
theorem Sat.list_on (S : Sat K mg B F pi rho mu' σ H') {i k : Nat} {xs ys : List D} {a : Addr} (hk : pi[k]? = some (some a)) (h : mu'[k]? = some (.lst ys)) : ∃ vs, H' a = some (.lst vs) ∧ RpL K mg (hid F pi H') vs ys := by
  obtain ⟨_, _, o, h3, h4⟩ := S.own k a _ hk h
  cases h4 with
  | lst r => exact ⟨_, h3, r⟩
/-- own[idx] -/
def eOwnIx (i : Nat) (f : FE) : FE := fun rho mu => match listAt rho mu i with
  | some (k, _) => (f rho mu).bind fun d mu1 => (match d, mu1[k]? with
    | .int j, some (.lst ys) => Rs.ofO (atI ys j) mu1
    | _, _ => .stuck)
  | none => .stuck
theorem td_ownIx {tb : TE} {f : FE} {i : Nat} (hb : TD K mg W tb f) : TD K mg W (tOp (rIx K) (tVar i) tb) (eOwnIx i f) := by
  intro B F pi rho mu σ H Q S h
  unfold eOwnIx at h
  cases el : listAt rho mu i with
  | none => rw [el] at h; exact h.elim
  | some kx =>
    obtain ⟨k, xs⟩ := kx
    rw [el] at h
    obtain ⟨a, vs, h1, h2, h3, r⟩ := S.list_at el
    refine ⟨_, h2, ?_⟩
    refine TD.bind hb S h fun d mu1 v H1 S1 x1 r1 hc => ?_
    cases r1 with
    | int j =>
      cases e : mu1[k]? with
      | none => simp only [e] at hc; exact hc.elim
      | some z =>
        cases z with
        | lst ys =>
          simp only [e] at hc
          obtain ⟨ws, q1, q2⟩ := S1.list_on (i := i) (xs := xs) h1 e
          obtain ⟨y, ey, hy⟩ := ofO_some (α := D) (o := none) hc
          obtain ⟨u, eu, ru⟩ := atI_map q2 ey
          exact .inl ⟨a, ws, j, u, rfl, rfl, .inl (.inl q1), eu, hy u H1 S1 (Ext.refl _) ru⟩
        | _ => simp only [e] at hc; exact hc.elim
    | _ => exact hc.elim
/-- own[idx] = value -/
def sOwnSet (i : Nat) (fi fv : FE) : FS := fun rho mu => rBind (fv rho mu) rho fun v mu1 => (match listAt rho mu1 i with
  | some (k, _) => rBind (fi rho mu1) rho fun d mu2 => (match d, mu2[k]? with
    | .int j, some (.lst ys) => (match ixN ys.length j with
      | some n => .nx rho (mu2.set k (.lst (ys.set n v)))
      | none => .stuck)
    | _, _ => .stuck)
  | none => .stuck)
theorem tds_ownSet {tv ti : TE} {fi fv : FE} {i : Nat} (hv : TD K mg W tv fv) (hi : TD K mg W ti fi) : TDS K mg W (tAsg tv (L2.gSub (tVar i) ti rSetL)) (sOwnSet i fi fv) := by
  intro B F pi rho mu σ H Dn S h
  refine hv.stm S h fun v mu1 u H1 S1 x1 r1 h1 => ?_
  cases el : listAt rho mu1 i with
  | none => rw [el] at h1; exact h1.elim
  | some kx =>
    obtain ⟨k, xs⟩ := kx
    rw [el] at h1
    obtain ⟨a, vs, z1, z2, z3, r⟩ := S1.list_at el
    refine ⟨_, z2, ?_⟩
    refine hi.stm S1 h1 fun d mu2 w H2 S2 x2 r2 h2 => ?_
    cases r2 with
    | int j =>
      cases e : mu2[k]? with
      | none => simp only [e] at h2; exact h2.elim
      | some z =>
        cases z with
        | lst ys =>
          simp only [e] at h2
          obtain ⟨ws, q1, q2⟩ := S2.list_on (i := i) (xs := xs) z1 e
          cases en : ixN ys.length j with
          | none => rw [en] at h2; exact h2.elim
          | some n =>
            rw [en] at h2
            refine ⟨a, ws, j, n, rfl, rfl, q1, by rw [q2.length]; exact en, ?_⟩
            obtain ⟨s1, s2⟩ := S2.updOwn z1 (.lst (q2.set (r1.mono x2) n))
            exact h2 pi σ _ (PiExt.refl _) s1 s2
        | _ => simp only [e] at h2; exact h2.elim
    | _ => exact h2.elim
/-- own.m(..), a method that gives None -/
def sMut (i : Nat) (g : List D → List D → Option (List D)) (fa : FA) : FS := fun rho mu => match listAt rho mu i with
  | some (k, _) => rBind (fa rho mu) rho fun as mu1 => (match mu1[k]? with
    | some (.lst ys) => (match g ys as with
      | some zs => .nx rho (mu1.set k (.lst zs))
      | none => .stuck)
    | _ => .stuck)
  | none => .stuck
variable (K mg) in
def RMu (r : V → List V → Hp → VK → Prop) (g : List D → List D → Option (List D)) : Prop := ∀ (F : Addr → Bool) (pi : List (Option Addr)) (H : Hp) (a : Addr) (vs : List V) (xs : List D) (zs : List V) (ds ys : List D) (Q : VK), H a = some (.lst vs) →
  RpL K mg (hid F pi H) vs xs → RpL K mg (hid F pi H) zs ds → g xs ds = some ys → (∀ ws, RpL K mg (hid F pi H) ws ys → Q .non (upd H a (.lst ws))) → r (.ref a) zs H Q
theorem tds_mut {ta : TA} {fa : FA} {i : Nat} {r : V → List V → Hp → VK → Prop} {g : List D → List D → Option (List D)} (ha : TDA K mg W ta fa) (hr : RMu K mg r g) : TDS K mg W (tDrop (tBM K "list" r (tVar i) ta)) (sMut i g fa) := by
  intro B F pi rho mu σ H Dn S h
  unfold sMut at h
  cases el : listAt rho mu i with
  | none => rw [el] at h; exact h.elim
  | some kx =>
    obtain ⟨k, xs⟩ := kx
    rw [el] at h
    obtain ⟨a, vs, z1, z2, z3, rr⟩ := S.list_at el
    refine ⟨_, z2, .inl ⟨rfl, _, .inl (.inl z3)⟩, ?_⟩
    refine ha.stm S h fun ds mu1 ws H1 S1 x1 r1 h1 => ?_
    cases e : mu1[k]? with
    | none => rw [e] at h1; exact h1.elim
    | some z =>
      rw [e] at h1
      cases z with
      | lst ys =>
        simp only at h1
        obtain ⟨us, q1, q2⟩ := S1.list_on (i := i) (xs := xs) z1 e
        cases eg : g ys ds with
        | none => rw [eg] at h1; exact h1.elim
        | some zs =>
          rw [eg] at h1
          refine hr F pi H1 a us ys ws ds zs _ q1 q2 r1 eg fun ns rn => ?_
          obtain ⟨s1, s2⟩ := S1.updOwn z1 (.lst rn)
          exact h1 pi σ _ (PiExt.refl _) s1 s2
      | _ => exact h1.elim
def gAppend (xs : List D) : List D → Option (List D)
  | [d] => if xs.length < 16777216 then some (xs ++ [d]) else none
  | _ => none
theorem rm_append : RMu K mg rAppend gAppend := by
  intro F pi H a vs xs zs ds ys Q h r rz e k
  unfold gAppend at e
  split at e
  · split at e
    · rename_i hl; cases e
      cases rz with
      | cons rd rn =>
        cases rn
        exact ⟨a, vs, _, rfl, rfl, h, by rw [r.length, sizeLine_eq]; exact hl, k _ (r.snoc rd)⟩
    · cases e
  · cases e
def gInsert (xs : List D) : List D → Option (List D)
  | [.int i, d] => if xs.length < 16777216 ∧ 0 ≤ i ∧ i < 2 ^ 63 then some (xs.take i.toNat ++ [d] ++ xs.drop i.toNat) else none
  | _ => none
abbrev rInsert : V → List V → Hp → VK → Prop := fun x vs H Q => ∃ (l : Addr) (xs : List V) (i : Int) (y : V), x = .ref l ∧ vs = [.int i, y] ∧ H l = some (.lst xs) ∧ xs.length < sizeLine ∧ 0 ≤ i ∧ i < 2 ^ 63 ∧
    Q .non (upd H l (.lst (xs.take i.toNat ++ [y] ++ xs.drop i.toNat)))
theorem rm_insert : RMu K mg rInsert gInsert := by
  intro F pi H a vs xs zs ds ys Q h r rz e k
  unfold gInsert at e
  split at e
  · split at e
    · rename_i hl; cases e
      cases rz with
      | cons ri rn =>
        cases rn with
        | cons rd rn =>
          cases rn
          cases ri
          exact ⟨a, vs, _, _, rfl, rfl, h, by rw [r.length, sizeLine_eq]; exact hl.1, hl.2.1, hl.2.2, k _ (((r.take _).snoc rd).app (r.drop _))⟩
    · cases e
  · cases e
end
section
variable {X : Cx} {W : WX} {k : Nat} {e : Expr} {es : List Expr} {f fi fv : FE} {fa : FA} {pos pos' : Pos}
theorem jn_lst (h : JA X W es fa) : JN X W (.List es pos) (eA gLst fa) := let ⟨_, p, d⟩ := h; ⟨_, pe_lst p, tdn_lst d⟩
theorem JN.je (h : JN X W e f) : JE X W e f := let ⟨_, p, d⟩ := h; ⟨_, p, d.td⟩
theorem js_new (C : Ctx X k W) {x : Str} (i : Nat) (he : JN X W e f) (hi : X.N[i]? = some x := by rfl) (hx : Loc X.env.scope x := by first | exact Or.inl rfl | exact Or.inr rfl) (hs : swapsWith e (some (.Name x pos')) pos.line X.env = pure false := by rfl)
    (hf : X.fn x = true ∨ X.env.scope.names.lookup x = some .local := by first | exact .inl rfl | exact .inr rfl) : JS X W (.Assign [.Name x pos'] e pos) (sNew i f) := let ⟨_, p, d⟩ := he; ⟨_, ps_set C.nd hi hx p hs hf, tds_new d⟩
theorem js_lcN {elt tg iter : Expr} {ifs : List Expr} {scope : Scope} {spos : Pos} {it : FA} {g : FG} {c : FE} {ix : List Nat} (C : Ctx X k W) (own : List (Str × Nat)) {i : Nat} {y : Str} {py : Pos} (hi : JI X W tg iter it) (hg : ∀ (s : Shared) (H : Hp) (L : Addr) (cl : List (Str × Addr)) (fp : List Addr), JG (X.blk s H scope (compEnvC scope cl L X.env) fp) tg ix g)
    (ht : ∀ (s : Shared) (H : Hp) (L : Addr) (cl : List (Str × Addr)) (fp : List Addr), JTs (X.blk s H scope (compEnvC scope cl L X.env) fp) WF ifs c)
    (he : ∀ (s : Shared) (H : Hp) (L : Addr) (cl : List (Str × Addr)) (fp : List Addr), JE (X.blk s H scope (compEnvC scope cl L X.env) fp) WF elt f)
    (hy : X.N[i]? = some y := by rfl) (hyl : X.env.scope.names.lookup y = some .local := by rfl) (hk : X.env.scope.kind = .function := by rfl) (hl : (py.line == pos.line) = true := by rfl) (ha : (scope.names.any fun (n, k) => n == y && (k == .local || k == .cell)) = false := by rfl)
    (ok : blkC X.N X.env.scope scope own = true := by rfl) (hix : (ix.all fun i => (own.map (·.2)).contains i) = true := by rfl) (hs : ∀ x, foldedSetIterable iter X.env x = pure x := by intro _; rfl) :
    JS X W (.Assign [.Name y py] (.ListComp elt [⟨tg, iter, ifs, 0⟩] scope pos) spos) (sNew i (eLc it g c f (own.map (·.2)))) := by
  obtain ⟨wi, pi, di⟩ := hi
  exact ⟨_, ps_setLc (g := tKG X.K X.mg ix g) (tt := tKT X.K X.mg WF c) (te := tK X.K X.mg WF f) C.calm C.nd hy hyl (sw_true hk hyl hl ha) pi (blkOk_by ok) (fun s H L cl fp => (hg s H L cl fp).pg) (fun s H L cl fp => ht s H L cl fp) (fun s H L cl fp => (he s H L cl fp).pe) hs,
    tds_new (tdn_lc di fun i h => by simpa using List.all_eq_true.mp hix i h)⟩
/-- a, b = x, y -/
def JX (X : Cx) (W : WX) (es : List Expr) (f : FX) : Prop := ∃ t, PA X es t ∧ TDX X.K X.mg W t f
theorem jx_nil : JX X W [] xNil := ⟨_, pa_nil, tdx_nil⟩
theorem jx_dat {r : FX} (he : JE X W e f) (hr : JX X W es r) (hs : starEach (e :: es) X.env = (false, eval e X.env) :: starEach es X.env := by rfl) : JX X W (e :: es) (xDat f r) := let ⟨_, p, d⟩ := he; let ⟨_, q, d'⟩ := hr; ⟨_, pa_cons p q hs, tdx_dat d d'⟩
theorem jx_new {r : FX} (he : JN X W e f) (hr : JX X W es r) (hs : starEach (e :: es) X.env = (false, eval e X.env) :: starEach es X.env := by rfl) : JX X W (e :: es) (xNew f r) := let ⟨_, p, d⟩ := he; let ⟨_, q, d'⟩ := hr; ⟨_, pa_cons p q hs, tdx_new d d'⟩
theorem js_par {x y : Str} {a b : Expr} {px py pt : Pos} {kt k2 : Nat} {pt2 : Pos} {fx : FX} (C : Ctx X k W) (i j : Nat) (ha : JX X W [a, b] fx) (hi : X.N[i]? = some x := by rfl) (hj : X.N[j]? = some y := by rfl) (hij : i ≠ j := by decide)
    (hx : X.env.scope.names.lookup x = some .local := by rfl) (hy : X.env.scope.names.lookup y = some .local := by rfl) (hw : swappedStores [.Tuple [.Name x px, .Name y py] kt pt] (.Tuple [a, b] k2 pt2) X.env = pure (some [x, y]) := by rfl)
    (hs : swapsWithSole [.Tuple [.Name x px, .Name y py] kt pt] (.Tuple [a, b] k2 pt2) pos.line X.env = pure false := by rfl) : JS X W (.Assign [.Tuple [.Name x px, .Name y py] kt pt] (.Tuple [a, b] k2 pt2) pos) (sParX i j fx) :=
  let ⟨_, p, d⟩ := ha; ⟨_, ps_par C.calm C.nd hi hj hij hx hy p hw hs, tds_parX d⟩
theorem js_par3 {x y z : Str} {a b c : Expr} {px py pz pt : Pos} {kt k2 : Nat} {pt2 : Pos} {fx : FX} (C : Ctx X k W) (i j l : Nat) (ha : JX X W [a, b, c] fx) (hi : X.N[i]? = some x := by rfl) (hj : X.N[j]? = some y := by rfl) (hl : X.N[l]? = some z := by rfl) (hij : i ≠ j := by decide) (hil : i ≠ l := by decide) (hjl : j ≠ l := by decide)
    (hx : X.env.scope.names.lookup x = some .local := by rfl) (hy : X.env.scope.names.lookup y = some .local := by rfl) (hz : X.env.scope.names.lookup z = some .local := by rfl) (hw : swappedStores [.Tuple [.Name x px, .Name y py, .Name z pz] kt pt] (.Tuple [a, b, c] k2 pt2) X.env = pure (some [x, y, z]) := by rfl)
    (hs : swapsWithSole [.Tuple [.Name x px, .Name y py, .Name z pz] kt pt] (.Tuple [a, b, c] k2 pt2) pos.line X.env = pure false := by rfl) : JS X W (.Assign [.Tuple [.Name x px, .Name y py, .Name z pz] kt pt] (.Tuple [a, b, c] k2 pt2) pos) (sParX3 i j l fx) :=
  let ⟨_, p, d⟩ := ha; ⟨_, ps_par3 C.calm C.nd hi hj hl hij hil hjl hx hy hz p hw hs, tds_parX3 d⟩
theorem je_ownIx (i : Nat) {x : Str} {pn : Pos} {b : Expr} (hb : JE X W b f) (hN : X.N[i]? = some x := by rfl) (hv : Vis X.env.scope x := by first | exact Or.inl rfl | exact Or.inr (Or.inl rfl) | exact Or.inr (Or.inr rfl)) (hd : (x == ("__debug__" : Str)) = false := by decide)
    (hcd : (x == ("__classdict__" : Str)) = false := by decide) (hs : PlainIx b := by intro _ _; rfl) : JE X W (.Subscript (.Name x pn) b pos) (eOwnIx i f) := let ⟨_, p, d⟩ := hb; ⟨_, pe_ix ix_seq (pe_var hN hv hd hcd) p hs, td_ownIx d⟩
theorem js_ownSet (i : Nat) {x : Str} {pn tp : Pos} {b v : Expr} (hb : JE X W b fi) (hv : JE X W v fv) (hN : X.N[i]? = some x := by rfl) (hvs : Vis X.env.scope x := by first | exact Or.inl rfl | exact Or.inr (Or.inl rfl) | exact Or.inr (Or.inr rfl)) (hd : (x == ("__debug__" : Str)) = false := by decide)
    (hcd : (x == ("__classdict__" : Str)) = false := by decide)
    (has : ∀ u, assign (.Subscript (.Name x pn) b tp) X.env u = (do
      let ov ← holding [u] (eval (.Name x pn) X.env)
      let iv ← holding [u, ov] (eval b X.env)
      standAt tp
      holding [u, ov, iv] (setItem ov iv u)
      release [u, ov, iv] []) := by intro _; rfl)
    (hs : swapsWithSole [.Subscript (.Name x pn) b tp] v pos.line X.env = pure false := by rfl) (hw : swappedStores [.Subscript (.Name x pn) b tp] v X.env = pure none := by rfl)
    (h1 : (assignEach [.Subscript (.Name x pn) b tp] X.env).map (·.2) = [assign (.Subscript (.Name x pn) b tp) X.env] := by rfl) : JS X W (.Assign [.Subscript (.Name x pn) b tp] v pos) (sOwnSet i fi fv) :=
  let ⟨_, p, d⟩ := hb; let ⟨_, q, d'⟩ := hv; ⟨_, ps_asg q (pg_sub (pe_var hN hvs hd hcd) p set_list has) hs hw h1, tds_ownSet d' d⟩
theorem js_mut {name : Str} {id : String} {r : V → List V → Hp → VK → Prop} {g : List D → List D → Option (List D)} (slot : Slot "list" name id) (hty : typeOf (.builtin id) = pure (.type "method_descriptor")) (hm : MtR X id r) (hr : RMu X.K X.mg r g) (i : Nat) {x : Str} {pn apos cpos : Pos} (ha : JA X W (e :: es) fa) (hN : X.N[i]? = some x)
    (hv : Vis X.env.scope x) (hd : (x == ("__debug__" : Str)) = false)
    (hcd : (x == ("__classdict__" : Str)) = false)
    (hbase : attributeBase (.Name x pn) name X.env (eval (.Name x pn) X.env) = eval (.Name x pn) X.env)
    (hfew : ((backTo cpos (starEach (e :: es) X.env)).all (fun x => !x.1) && (backToKw cpos (keywordEach [] X.env)).all (fun x => x.1.isSome)
      && decide ((e :: es).length + ([] : List Keyword).length + (if ([] : List Keyword).isEmpty then 0 else 1) < 30)) = true)
    (hline : (apos.endLine == cpos.line) = true) (hs : starEach (e :: es) X.env = (false, eval e X.env) :: starEach es X.env) (hplain : (backTo cpos (starEach es X.env)).any (·.1) = false)
    (hsw : swapsWith (.Call (.Attribute (.Name x pn) name apos) (e :: es) [] cpos) none pos.line X.env = pure false) : JS X W (.Expr (.Call (.Attribute (.Name x pn) name apos) (e :: es) [] cpos) pos) (sMut i g fa) :=
  let ⟨_, p, d⟩ := ha; ⟨_, ps_expr (pe_bm PySem.F.plainAttrs_list slot hty hm (pe_var hN hv hd hcd) p hbase hfew hline hs hplain) hsw, tds_mut d hr⟩
theorem js_append (i : Nat) {x : Str} {pn apos cpos : Pos} (ha : JA X W [e] fa) (hN : X.N[i]? = some x := by rfl) (hv : Vis X.env.scope x := by first | exact Or.inl rfl | exact Or.inr (Or.inl rfl) | exact Or.inr (Or.inr rfl)) (hd : (x == ("__debug__" : Str)) = false := by decide)
    (hcd : (x == ("__classdict__" : Str)) = false := by decide) (hbase : attributeBase (.Name x pn) "append" X.env (eval (.Name x pn) X.env) = eval (.Name x pn) X.env := by rfl)
    (hfew : ((backTo cpos (starEach [e] X.env)).all (fun x => !x.1) && (backToKw cpos (keywordEach [] X.env)).all (fun x => x.1.isSome)
      && decide ([e].length + ([] : List Keyword).length + (if ([] : List Keyword).isEmpty then 0 else 1) < 30)) = true := by rfl)
    (hline : (apos.endLine == cpos.line) = true := by rfl) (hs : starEach [e] X.env = (false, eval e X.env) :: starEach [] X.env := by rfl) (hplain : (backTo cpos (starEach [] X.env)).any (·.1) = false := by rfl)
    (hsw : swapsWith (.Call (.Attribute (.Name x pn) "append" apos) [e] [] cpos) none pos.line X.env = pure false := by rfl) : JS X W (.Expr (.Call (.Attribute (.Name x pn) "append" apos) [e] [] cpos) pos) (sMut i gAppend fa) :=
  js_mut PySem.F.slot_list_append PySem.F.type_list_append mt_append rm_append i ha hN hv hd hcd hbase hfew hline hs hplain hsw
theorem js_insert (i : Nat) {x : Str} {pn apos cpos : Pos} {e2 : Expr} (ha : JA X W [e, e2] fa) (hN : X.N[i]? = some x := by rfl) (hv : Vis X.env.scope x := by first | exact Or.inl rfl | exact Or.inr (Or.inl rfl) | exact Or.inr (Or.inr rfl)) (hd : (x == ("__debug__" : Str)) = false := by decide)
    (hcd : (x == ("__classdict__" : Str)) = false := by decide) (hbase : attributeBase (.Name x pn) "insert" X.env (eval (.Name x pn) X.env) = eval (.Name x pn) X.env := by rfl)
    (hfew : ((backTo cpos (starEach [e, e2] X.env)).all (fun x => !x.1) && (backToKw cpos (keywordEach [] X.env)).all (fun x => x.1.isSome)
      && decide ([e, e2].length + ([] : List Keyword).length + (if ([] : List Keyword).isEmpty then 0 else 1) < 30)) = true := by rfl)
    (hline : (apos.endLine == cpos.line) = true := by rfl) (hs : starEach [e, e2] X.env = (false, eval e X.env) :: starEach [e2] X.env := by rfl) (hplain : (backTo cpos (starEach [e2] X.env)).any (·.1) = false := by rfl)
    (hsw : swapsWith (.Call (.Attribute (.Name x pn) "insert" apos) [e, e2] [] cpos) none pos.line X.env = pure false := by rfl) : JS X W (.Expr (.Call (.Attribute (.Name x pn) "insert" apos) [e, e2] [] cpos) pos) (sMut i gInsert fa) :=
  js_mut PySem.F.slot_list_insert PySem.F.type_list_insert mt_insert rm_insert i ha hN hv hd hcd hbase hfew hline hs hplain hsw
end
end DL

set_option maxHeartbeats 4000000
/-! DLm: own classes: made, their fields, methods, properties, class methods. -/
namespace DL
open PySem PySem.Spec PyProof.Rows L2
section
variable {K : PySem.W.Frag} {mg : Str → Option Value} {W : WX} {B : Hp} {F : Addr → Bool} {pi pi1 : List (Option Addr)} {rho rho' : List Sl} {mu mu' : List D} {σ σ' : L2.St} {H H' H1 : Hp}
theorem RpF.put {f : Str} {v : V} {d : D} (h : Rp K mg H v d) : ∀ {vs : List (Str × V)} {ds : List (Str × D)}, RpF K mg H vs ds → RpF K mg H (putF f v vs) (putD f d ds)
  | _, _, .nil => .cons h .nil
  | _, _, .cons (k := k) a r => by
    unfold putF putD
    by_cases e : k = f
    · rw [if_pos e, if_pos e, e]; exact .cons h r
    · rw [if_neg e, if_neg e]; exact .cons a (RpF.put h r)
/-! ### an object in a slot -/
def objIn (mu : List D) : Sl → Option (Str × List (Str × D))
  | .dat (.obj c fs) => some (c, fs)
  | .own k => (match mu[k]? with
    | some (.obj c fs) => some (c, fs)
    | _ => none)
  | _ => none
theorem obj_of (S : Sat K mg B F pi rho mu σ H) {v : V} {s : Sl} {c : Str} {fs : List (Str × D)} (r : ArgR K mg F pi H v s) (e : objIn mu s = some (c, fs)) : ∃ a C dx vs, v = .ref a ∧ mg c = some (.ref C) ∧ H a = some (.ins C dx vs) ∧ RpF K mg (hid F pi H) vs fs := by
  cases r with
  | dat r =>
    cases r with
    | obj m h rf => cases e; exact ⟨_, _, _, _, rfl, m, hid_le _ _ h, rf⟩
    | _ => cases e
  | @own a k hk =>
    unfold objIn at e
    simp only at e
    split at e
    · rename_i c' fs' q
      cases e
      obtain ⟨_, _, o, h3, h4⟩ := S.own k a _ hk q
      cases h4 with
      | obj m rf => exact ⟨a, _, _, _, rfl, m, h3, rf⟩
    · cases e
/-- o.f -/
def eAttr (cs : List Str) (f : Str) (fr : FR) : FE := fun rho mu => (fr rho mu).bind fun s mu1 => match objIn mu1 s with
  | some (c, fs) => if cs.contains c then Rs.ofO (fs.lookup f) mu1 else .stuck
  | none => .stuck
/-- the classes cs read the field f from the object's own dict -/
def AttrOk (K : PySem.W.Frag) (mg : Str → Option Value) (cs : List Str) (f : Str) : Prop := ∀ c ∈ cs, ∀ C, mg c = some (.ref C) → Cls K C ∧ NoAttr K C f
theorem td_attr {t : TE} {fr : FR} {cs : List Str} {f : Str} (ht : TDR K mg W t fr) (ok : AttrOk K mg cs f) : TD K mg W (tFld K t f) (eAttr cs f fr) := by
  intro B F pi rho mu σ H Q S h
  show t σ H _
  refine TDR.bindE ht S h fun s mu1 v H1 S1 x1 r1 h1 => ?_
  cases e : objIn mu1 s with
  | none => simp only [e] at h1; exact h1.elim
  | some p =>
    obtain ⟨c, fs⟩ := p
    simp only [e] at h1
    split at h1
    · rename_i hc
      obtain ⟨a, C, dx, vs, q1, q2, q3, q4⟩ := obj_of S1 r1 e
      obtain ⟨d, ed, hd⟩ := ofO_some (α := D) (o := none) h1
      obtain ⟨u, eu, ru⟩ := q4.look.1 d ed
      obtain ⟨o1, o2⟩ := ok c (by simpa using hc) C q2
      exact ⟨a, C, dx, vs, u, q1, q3, o1, o2, eu, hd u H1 S1 (Ext.refl _) ru⟩
    · exact h1.elim
/-- self.f = e, self an own object -/
def sAttr (cs : List Str) (f : Str) (i : Nat) (fe : FE) : FS := fun rho mu => rBind (fe rho mu) rho fun d mu1 => match rho[i]? with
  | some (.own k) => (match mu1[k]? with
    | some (.obj c fs) => if cs.contains c ∧ fs.length < 1000 then .nx rho (mu1.set k (.obj c (putD f d fs))) else .stuck
    | _ => .stuck)
  | _ => .stuck
theorem tds_attr {te : TE} {fe : FE} {cs : List Str} {f : Str} {i : Nat} (he : TD K mg W te fe) (ok : AttrOk K mg cs f) : TDS K mg W (sFld K (tVar i) te f) (sAttr cs f i fe) := by
  intro B F pi rho mu σ H Dn S h
  show te σ H _
  refine he.stm S h fun d mu1 v H1 S1 x1 r1 h1 => ?_
  split at h1
  · rename_i k e
    split at h1
    · rename_i c fs q
      split at h1
      · rename_i hc
        obtain ⟨a, p1, p2⟩ := S1.ref i k e
        obtain ⟨_, _, o, h3, h4⟩ := S1.own k a _ p1 q
        cases h4 with
        | obj m rf =>
          obtain ⟨o1, o2⟩ := ok c (by simpa using hc.1) _ m
          refine ⟨_, p2, a, _, _, _, rfl, h3, o1, o2, by rw [rf.length]; exact hc.2, ?_⟩
          obtain ⟨s1, s2⟩ := S1.updOwn p1 (.obj (dx := _) m (rf.put (f := f) r1))
          exact h1 pi σ _ (PiExt.refl _) s1 s2
      · exact h1.elim
    · exact h1.elim
  · exact h1.elim
end
section
variable {X : Cx} {W : WX} {k : Nat} {e : Expr} {fe : FE} {pos : Pos}
theorem je_attr {fr : FR} {f : Str} (cs : List Str) (ok : AttrOk X.K X.mg cs f) (he : JR X W e fr) (hb : attributeBase e f X.env (eval e X.env) = eval e X.env := by rfl) : JE X W (.Attribute e f pos) (eAttr cs f fr) := let ⟨_, p, d⟩ := he; ⟨_, pe_fld p hb, td_attr d ok⟩
theorem js_attr {f x : Str} {pn pos' : Pos} (cs : List Str) (ok : AttrOk X.K X.mg cs f) (i : Nat) (he : JE X W e fe) (hN : X.N[i]? = some x := by rfl) (hv : Vis X.env.scope x := by first | exact Or.inl rfl | exact Or.inr (Or.inl rfl) | exact Or.inr (Or.inr rfl)) (hd : (x == ("__debug__" : Str)) = false := by decide)
    (hcd : (x == ("__classdict__" : Str)) = false := by decide) (hs : swapsWith e (some (.Attribute (.Name x pn) f pos')) pos.line X.env = pure false := by rfl) : JS X W (.Assign [.Attribute (.Name x pn) f pos'] e pos) (sAttr cs f i fe) :=
  let ⟨_, p, d⟩ := he; ⟨_, ps_fld (pe_var hN hv hd hcd) p hs, tds_attr d ok⟩
end

/-! ### a new instance -/
def cMk (c : Str) (cl : List Sl → List Sl → List D → Rs D) (ss ts : List Sl) (mu : List D) : Rs D :=
  match cl (.own mu.length :: ss) ts (mu ++ [.obj c []]) with
  | .ok .non mu' => (match mu'[mu.length]? with
    | some (.obj c' fs) => .ok (.obj c' fs) (mu'.take mu.length)
    | _ => .stuck)
  | .err x mu' => .err x (mu'.take mu.length)
  | _ => .stuck
section
variable {X : Cx} {W : WX} {k j : Nat} {f C : Addr} {ks : List Str} {cl : List Sl → List Sl → List D → Rs D} {c : Str}
theorem snoc_of {α : Type} {l : List α} {n : Nat} {d : α} (h : l.length = n + 1) (e : l[n]? = some d) : l = l.take n ++ [d] := by
  obtain ⟨h1, h2⟩ := List.getElem?_eq_some_iff.mp e
  subst h2
  rw [List.take_append_getElem, ← h, List.take_length]
theorem run_mk {pins : List (Addr × Obj)} {σ : L2.St} {H : Hp} {s : Shared} {Q : VK} {us ws : List Value} {vs zs : List V} {B : Hp} {F : Addr → Bool} {pi : List (Option Addr)} {rho : List Sl} {mu : List D} {ss ts : List Sl}
    (Cx1 : Ctx X k W) (M : Mk X.K C f) (hm : X.mg c = some (.ref C)) (G : FnK X.prog X.w X.K X.mg X.base j f ks cl) (hj : j + 1 ≤ k) (I : Inv X pins σ H s) (S : Sat X.K X.mg B F pi rho mu σ H)
    (rv : Vals vs us) (rz : Vals zs ws) (ra : ArgsR X.K X.mg F pi H vs ss) (rt : ArgsR X.K X.mg F pi H zs ts) (h : ContE X.K X.mg W B F pi rho σ H Q (cMk c cl ss ts mu)) :
    wpAny (model X.prog X.w) X.A (call (.ref C) us (ks.zip ws)) (EP X pins σ Q) X.xe s := by
  let dx := s.heap.objs.size
  let x := s.heap.objs.size + 1
  have hd : H dx = none := I.hok.fresh (Nat.le_refl _)
  have hx : H x = none := I.hok.fresh (Nat.le_succ _)
  have ne : x ≠ dx := Nat.succ_ne_self _
  have e1 : Ext H (upd H dx (.own x)) := Ext.new hd
  have hx1 : upd H dx (.own x) x = none := by rw [upd_ne ne]; exact hx
  have S1 := S.ext' e1
  have r0 : RpO X.K X.mg (hid F pi (upd H dx (.own x))) (.ins C dx []) (.obj c []) := .obj hm .nil
  obtain ⟨S2, x2⟩ := S1.push hx1 r0
  have xx : Ext (hid F pi H) (hid F (pi ++ [some x]) (upd (upd H dx (.own x)) x (.ins C dx []))) := (S.hext e1).trans x2
  have I2 := Inv.made (C := C) I
  have hpl : pi.length = mu.length := S.len
  have selfR : ArgR X.K X.mg F (pi ++ [some x]) (upd (upd H dx (.own x)) x (.ins C dx [])) (.ref x) (.own mu.length) := .own (by rw [← hpl]; simp)
  have gr : ∀ (q : Nat) (a : Addr), pi[q]? = some (some a) → (pi ++ [some x])[q]? = some (some a) := fun q a e => by rw [List.getElem?_append_left (List.getElem?_eq_some_iff.mp e).1]; exact e
  have grow : ∀ {vs : List V} {ss : List Sl}, ArgsR X.K X.mg F pi H vs ss → ArgsR X.K X.mg F (pi ++ [some x]) (upd (upd H dx (.own x)) x (.ins C dx [])) vs ss := fun {vs ss} r => by
    induction r with
    | nil => exact .nil
    | cons a _ ih => exact .cons (ArgR.grow gr xx a) ih
  have pop : ∀ {mu' : List D} {d : D} {H' : Hp}, Sat X.K X.mg B F (pi ++ [some x]) rho mu' σ H' → mu'[mu.length]? = some d → Sat X.K X.mg B F pi rho (mu'.take mu.length) σ H' ∧ Ext (hid F (pi ++ [some x]) H') (hid F pi H') ∧ Rp X.K X.mg (hid F pi H') (.ref x) d := fun {mu' d H'} S' hq => by
    have hlen : mu'.length = mu.length + 1 := by have := S'.len; simp at this; omega
    have em := snoc_of hlen hq
    rw [em] at S'
    have z := S'.pop fun i q hq => by
      obtain ⟨a, h1, _⟩ := S.ref i q hq
      exact (List.getElem?_eq_some_iff.mp h1).1
    exact z
  have hc : ContE X.K X.mg (fun cls dd _ H' => W cls dd σ H') B F (pi ++ [some x]) rho σ (upd (upd H dx (.own x)) x (.ins C dx [])) (fun v H2 => v = .non ∧ Q (.ref x) H2) (cl (.own mu.length :: ss) ts (mu ++ [.obj c []])) := by
    unfold cMk at h
    cases e : cl (.own mu.length :: ss) ts (mu ++ [.obj c []]) with
    | stuck => rw [e] at h; exact h.elim
    | err z mu' =>
      rw [e] at h
      intro cls dd H' S' x' rx
      have hlen : mu'.length = mu.length + 1 := by have := S'.len; simp at this; omega
      obtain ⟨z1, z2, _⟩ := pop S' (List.getElem?_eq_getElem (show mu.length < mu'.length by omega))
      obtain ⟨C', d', fs', a1, a2, a3, a4, a5⟩ := rx
      exact h cls dd H' z1 (xx.trans (x'.trans z2)) ⟨C', d', fs', a1, a2, a3, z2 _ _ a4, a5.mono z2⟩
    | ok d mu' =>
      rw [e] at h
      cases d with
      | non =>
        simp only at h
        split at h
        · rename_i c' fs hq
          intro v H' S' x' rr
          obtain ⟨z1, z2, z3⟩ := pop S' hq
          cases rr
          exact ⟨rfl, h (.ref x) H' z1 (xx.trans (x'.trans z2)) z3⟩
        · exact h.elim
      | _ => exact h.elim
  refine wpAny_call (make_map (f := f) I.kIn M.makes M.init (beq_iff_eq.mp M.fn) (codeAny_mono (G.run _ X.stack _ _ (Value.ref (s.heap.objs.size + 1) :: us) ws (.ref x :: vs) zs _ (WE W σ) B F (pi ++ [some x]) rho (mu ++ [.obj c []]) σ (.own mu.length :: ss) ts ((Cx1.room.mono hj).make C us (ks.zip ws))
    (I2.env0.make C us (ks.zip ws)) (.cons rfl rv) rz S2 (.cons selfR (grow ra)) (grow rt) hc) fun r s' hq' => ?_))
  cases r with
  | error e => exact (passAt Cx1.takes σ) pins _ _ e s' I2 hq'
  | ok fl =>
    cases fl with
    | ret u =>
      obtain ⟨v, H', I3, rv, ev, q3⟩ := I2.after hq'
      subst ev
      exact ⟨rv, ⟨V.ref (s.heap.objs.size + 1), H', I3, rfl, q3⟩⟩
    | next => exact False.elim hq'
    | brk => exact False.elim hq'
    | cont => exact False.elim hq'
theorem cal_mk (C1 : Ctx X k W) (M : Mk X.K C f) (hm : X.mg c = some (.ref C)) (G : FnK X.prog X.w X.K X.mg X.base j f ks cl) (hj : j + 1 ≤ k) : Cal X W (.ref C) ks (cMk c cl) :=
  ⟨M.kp, fun pins s B F pi rho mu σ H Q vs zs us ws ss ts I S rv rz ra rt h => run_mk C1 M hm G hj I S rv rz ra rt h⟩
end

/-! ### o.m(..) -/
def eMeth (c m : Str) (fr : FR) (cl : List Sl → List Sl → List D → Rs D) (fa fk : FL) : FE := fun rho mu => (fr rho mu).bind fun s mu1 => match objIn mu1 s with
  | some (c', fs) => if c' = c ∧ fs.lookup m = none then (fa rho mu1).bind fun ss mu2 => (fk rho mu2).bind fun ts mu3 => cl (s :: ss) ts mu3 else .stuck
  | none => .stuck
section
variable {X : Cx} {W : WX} {k : Nat} {g C : Addr} {o e : Expr} {es : List Expr} {kws : List Keyword} {ks : List Str} {c m : Str} {fr : FR} {fa fk : FL} {cl : List Sl → List Sl → List D → Rs D} {pl : Sem Bool} {apos pos : Pos}
theorem je_meth (ho : JR X W o fr) (hm : X.mg c = some (.ref C)) (cc : Cls X.K C) (mt : Meth X.K C m g) (hc : Cal X W (.ref g) [] cl) (ha : JL X W (e :: es) fa)
    (hst : starEach (e :: es) X.env = (false, eval e X.env) :: starEach es X.env := by rfl) (hpl : (backTo pos (starEach es X.env)).any (·.1) = false := by rfl)
    (ht : eval (.Call (.Attribute o m apos) (e :: es) [] pos) X.env = (do
      let ov ← eval o X.env
      standAt apos.atName
      let (f, first) ← holding [ov] (getMethod ov m pl)
      callWith pos f first (backTo pos (starEach (e :: es) X.env)) (backToKw pos (keywordEach [] X.env))) := by rfl) : JE X W (.Call (.Attribute o m apos) (e :: es) [] pos) (eMeth c m fr cl fa lNil) := by
  obtain ⟨t, pe, de⟩ := ho
  obtain ⟨ta, pa, da⟩ := ha
  refine je_of fun pins s B F pi rho mu σ H Q I S h => ?_
  refine PySem.W.methodCall_KW (pl := pl) (thn (pe.run pins s σ H (fun v H1 => ∃ mu1 sl, Sat X.K X.mg B F pi rho mu1 σ H1 ∧ ArgR X.K X.mg F pi H1 v sl ∧ ContE X.K X.mg W B F pi rho σ H1 Q (match objIn mu1 sl with
      | some (c', fs) => if c' = c ∧ fs.lookup m = none then (fa rho mu1).bind fun ss mu2 => (lNil rho mu2).bind fun ts mu3 => cl (sl :: ss) ts mu3 else .stuck
      | none => .stuck)) I (TDR.bindE de S h fun sl mu1 v H1 S1 x1 r1 h1 => ⟨mu1, sl, S1, r1, h1⟩)) fun u s1 ⟨v, H1, I1, ru, mu1, sl, S1, r1, h1⟩ => ?_) ht
  cases eo : objIn mu1 sl with
  | none => simp only [eo] at h1; exact h1.elim
  | some p =>
    obtain ⟨c', fs⟩ := p
    simp only [eo] at h1
    split at h1
    · rename_i hc'
      obtain ⟨rfl, hl⟩ := hc'
      obtain ⟨a, C', dx, vs, q1, q2, q3, q4⟩ := obj_of S1 r1 eo
      rw [hm] at q2; cases q2
      subst q1
      obtain rfl : u = Value.ref a := ru
      refine getmeth_ok I1 q3 cc mt (q4.look.2 hl) ?_
      refine PySem.W.callWith_K (first := [.ref a]) (h₀ := X.base) I.ok.mod.kin hc.kp (thn (pa.run pos pins s1 σ H1 (fun vs H2 => ∃ mu2 ss, Sat X.K X.mg B F pi rho mu2 σ H2 ∧ ArgsR X.K X.mg F pi H2 vs ss ∧ ArgR X.K X.mg F pi H2 (.ref a) sl ∧ ContE X.K X.mg W B F pi rho σ H2 Q (cl (sl :: ss) [] mu2)) I1
        (TDL.bindE da S1 h1 fun ss mu2 vs H2 S2 x2 r2 h2 => ⟨mu2, ss, S2, r2, r1.mono x2, h2⟩)) fun us s2 ⟨vs, H2, I2, rv, mu2, ss, S2, r2, r1', h2⟩ => ⟨I2.kIn, ?_⟩) hst hpl
      exact hc.run pins s2 B F pi rho mu2 σ H2 Q (.ref a :: vs) [] (.ref a :: us) [] (sl :: ss) [] I2 S2 (.cons rfl rv) .nil (.cons r1' r2) .nil h2
    · exact h1.elim
theorem je_meth0 (ho : JR X W o fr) (hm : X.mg c = some (.ref C)) (cc : Cls X.K C) (mt : Meth X.K C m g) (hc : Cal X W (.ref g) [] cl)
    (ht : eval (.Call (.Attribute o m apos) [] [] pos) X.env = (do
      let ov ← eval o X.env
      standAt apos.atName
      let (f, first) ← holding [ov] (getMethod ov m pl)
      callWith pos f first (backTo pos (starEach [] X.env)) (backToKw pos (keywordEach [] X.env))) := by rfl) : JE X W (.Call (.Attribute o m apos) [] [] pos) (eMeth c m fr cl lNil lNil) := by
  obtain ⟨t, pe, de⟩ := ho
  refine je_of fun pins s B F pi rho mu σ H Q I S h => ?_
  refine PySem.W.methodCall_KW (pl := pl) (thn (pe.run pins s σ H (fun v H1 => ∃ mu1 sl, Sat X.K X.mg B F pi rho mu1 σ H1 ∧ ArgR X.K X.mg F pi H1 v sl ∧ ContE X.K X.mg W B F pi rho σ H1 Q (match objIn mu1 sl with
      | some (c', fs) => if c' = c ∧ fs.lookup m = none then (lNil rho mu1).bind fun ss mu2 => (lNil rho mu2).bind fun ts mu3 => cl (sl :: ss) ts mu3 else .stuck
      | none => .stuck)) I (TDR.bindE de S h fun sl mu1 v H1 S1 x1 r1 h1 => ⟨mu1, sl, S1, r1, h1⟩)) fun u s1 ⟨v, H1, I1, ru, mu1, sl, S1, r1, h1⟩ => ?_) ht
  cases eo : objIn mu1 sl with
  | none => simp only [eo] at h1; exact h1.elim
  | some p =>
    obtain ⟨c', fs⟩ := p
    simp only [eo] at h1
    split at h1
    · rename_i hc'
      obtain ⟨rfl, hl⟩ := hc'
      obtain ⟨a, C', dx, vs, q1, q2, q3, q4⟩ := obj_of S1 r1 eo
      rw [hm] at q2; cases q2
      subst q1
      obtain rfl : u = Value.ref a := ru
      refine getmeth_ok I1 q3 cc mt (q4.look.2 hl) ?_
      exact PySem.W.callWith_K0 (first := [.ref a]) I1.kIn hc.kp (hc.run pins s1 B F pi rho mu1 σ H1 Q [.ref a] [] [.ref a] [] [sl] [] I1 S1 (.cons rfl .nil) .nil (.cons r1 .nil) .nil h1)
    · exact h1.elim
theorem je_methS2 (ho : JR X W o fr) (hm : X.mg c = some (.ref C)) (cc : Cls X.K C) (mt : Meth X.K C m g) (hc : Cal X W (.ref g) [] cl) (ha : JL X W (e :: es) fa)
    (hst : starEach (e :: es) X.env = (false, eval e X.env) :: starEach es X.env := by rfl) (hpl : (backTo pos (starEach es X.env)).any (·.1) = true := by rfl)
    (ht : eval (.Call (.Attribute o m apos) (e :: es) [] pos) X.env = (do
      let ov ← eval o X.env
      standAt apos.atName
      let (f, first) ← holding [ov] (getMethod ov m pl)
      callWith pos f first (backTo pos (starEach (e :: es) X.env)) (backToKw pos (keywordEach [] X.env))) := by rfl) : JE X W (.Call (.Attribute o m apos) (e :: es) [] pos) (eMeth c m fr cl fa lNil) := by
  obtain ⟨t, pe, de⟩ := ho
  obtain ⟨ta, pa, da⟩ := ha
  refine je_of fun pins s B F pi rho mu σ H Q I S h => ?_
  refine PySem.W.methodCall_KW (pl := pl) (thn (pe.run pins s σ H (fun v H1 => ∃ mu1 sl, Sat X.K X.mg B F pi rho mu1 σ H1 ∧ ArgR X.K X.mg F pi H1 v sl ∧ ContE X.K X.mg W B F pi rho σ H1 Q (match objIn mu1 sl with
      | some (c', fs) => if c' = c ∧ fs.lookup m = none then (fa rho mu1).bind fun ss mu2 => (lNil rho mu2).bind fun ts mu3 => cl (sl :: ss) ts mu3 else .stuck
      | none => .stuck)) I (TDR.bindE de S h fun sl mu1 v H1 S1 x1 r1 h1 => ⟨mu1, sl, S1, r1, h1⟩)) fun u s1 ⟨v, H1, I1, ru, mu1, sl, S1, r1, h1⟩ => ?_) ht
  cases eo : objIn mu1 sl with
  | none => simp only [eo] at h1; exact h1.elim
  | some p =>
    obtain ⟨c', fs⟩ := p
    simp only [eo] at h1
    split at h1
    · rename_i hc'
      obtain ⟨rfl, hl⟩ := hc'
      obtain ⟨a, C', dx, vs, q1, q2, q3, q4⟩ := obj_of S1 r1 eo
      rw [hm] at q2; cases q2
      subst q1
      obtain rfl : u = Value.ref a := ru
      refine getmeth_ok I1 q3 cc mt (q4.look.2 hl) ?_
      refine PySem.W.callWith_S2 (first := [.ref a]) (h₀ := X.base) I.ok.mod.kin hc.kp (thn (pa.run pos pins s1 σ H1 (fun vs H2 => ∃ mu2 ss, Sat X.K X.mg B F pi rho mu2 σ H2 ∧ ArgsR X.K X.mg F pi H2 vs ss ∧ ArgR X.K X.mg F pi H2 (.ref a) sl ∧ ContE X.K X.mg W B F pi rho σ H2 Q (cl (sl :: ss) [] mu2)) I1
        (TDL.bindE da S1 h1 fun ss mu2 vs H2 S2 x2 r2 h2 => ⟨mu2, ss, S2, r2, r1.mono x2, h2⟩)) fun us s2 ⟨vs, H2, I2, rv, mu2, ss, S2, r2, r1', h2⟩ => ⟨I2.kIn, ?_⟩) hst hpl
      exact hc.run pins s2 B F pi rho mu2 σ H2 Q (.ref a :: vs) [] (.ref a :: us) [] (sl :: ss) [] I2 S2 (.cons rfl rv) .nil (.cons r1' r2) .nil h2
    · exact h1.elim
end
end DL

set_option maxHeartbeats 4000000
/-! DLn: special methods of own classes, repr of data, class constants, class methods, star parameters. -/
namespace DL
open PySem PySem.Spec PyProof.Rows L2

/-! ### what a special method does: the getter of a property, len, repr, == -/
section
variable {X : Cx} {W : WX} {k j n : Nat} {g C : Addr} {cl : List Sl → List Sl → List D → Rs D}
/-- a def called by the machine at the around A: data in, data out, no exception -/
theorem run_sp {pins : List (Addr × Obj)} {σ : L2.St} {H : Hp} {s : Shared} {Q : VK} {us : List Value} {vs : List V} {A : Around} {E' : Value → Shared → Prop} {B : Hp} {F : Addr → Bool} {pi : List (Option Addr)} {rho : List Sl} {mu : List D} {ss : List Sl}
    (G : FnK X.prog X.w X.K X.mg X.base j g [] cl) (hr : RoomG j A) (hfr : A.frames = X.A.frames) (I : Inv X pins σ H s) (S : Sat X.K X.mg B F pi rho mu σ H) (rv : Vals vs us) (ra : ArgsR X.K X.mg F pi H vs ss)
    (h : ContE X.K X.mg WF B F pi rho σ H Q (cl ss [] mu)) : wpAny (model X.prog X.w) A (call (.ref g) us) (EP X pins σ Q) E' s := by
  have e0 : Env0 X.prog X.w X.K X.mg X.base A X.stack s H := by
    have e := I.env0
    exact ⟨by rw [hfr]; exact e.frames, e.mod, e.bs, e.bsz, e.funs, e.frf, e.hok, e.bare⟩
  refine wpAny_call (codeAny_mono (G.run A X.stack s H us [] vs [] Q (fun _ _ _ => False) B F pi rho mu σ ss [] hr e0 rv .nil S ra .nil h) fun r s' hq => ?_)
  cases r with
  | error e =>
    obtain ⟨a, B', H', cls, d, _, _, _, _, _, _, _, z⟩ := hq
    exact z.elim
  | ok fl =>
    cases fl with
    | ret u => exact I.after hq
    | next => exact False.elim hq
    | brk => exact False.elim hq
    | cont => exact False.elim hq
theorem RoomG.in1 {k : Nat} {A : Around} (r : RoomG (k + 1) A) : RoomG k A.in1 := ⟨r.rm.in1, r.gd⟩
/-- the class c has at the name m the def g (a method; a special method) -/
structure MetAt (K : PySem.W.Frag) (C : Addr) (m : Str) (g : Addr) : Prop where
  at_ : PySem.W.findIn K (.ref C) m = some (some (.ref g))
  fn : PySem.W.isFn K (.ref g) = true
/-- f(o) by the special method -/
def eSpec (c : Str) (cl : List Sl → List Sl → List D → Rs D) (fr : FR) (back : D → Option D) : FE := fun rho mu => (fr rho mu).bind fun s mu1 => match objIn mu1 s with
  | some (c', _) => if c' = c then (match cl [s] [] mu1 with
    | .ok d mu2 => Rs.ofO (back d) mu2
    | _ => .stuck) else .stuck
  | none => .stuck
def gLenB : D → Option D
  | .int n => if 0 ≤ n ∧ n < 2 ^ 63 then some (.int n) else none
  | _ => none
def gStrB : D → Option D
  | .str x => some (.str x)
  | _ => none
variable {o e : Expr} {c : Str} {fr : FR} {x : Str} {p pos : Pos}
/-- what stands behind the receiver -/
theorem spec_of {pins : List (Addr × Obj)} {σ : L2.St} {H : Hp} {s : Shared} {Q : VK} {B : Hp} {F : Addr → Bool} {pi : List (Option Addr)} {rho : List Sl} {mu : List D} {sl : Sl} {v : V} {back : D → Option D}
    (hm : X.mg c = some (.ref C)) (I : Inv X pins σ H s) (S : Sat X.K X.mg B F pi rho mu σ H) (r : ArgR X.K X.mg F pi H v sl)
    (h : ContE X.K X.mg W B F pi rho σ H Q (match objIn mu sl with
      | some (c', _) => if c' = c then (match cl [sl] [] mu with
        | .ok d mu2 => Rs.ofO (back d) mu2
        | _ => .stuck) else .stuck
      | none => .stuck)) :
    ∃ a dx vs, v = .ref a ∧ H a = some (.ins C dx vs) ∧ ContE X.K X.mg WF B F pi rho σ H (fun v' H' => ∃ d z mu2, Rp X.K X.mg (hid F pi H') v' d ∧ back d = some z ∧ Sat X.K X.mg B F pi rho mu2 σ H' ∧ Ext (hid F pi H) (hid F pi H') ∧ (∀ w, (∀ Hh, Rp X.K X.mg Hh w z) → Q w H')) (cl [sl] [] mu) := by
  cases eo : objIn mu sl with
  | none => simp only [eo] at h; exact h.elim
  | some q =>
    obtain ⟨c', fs⟩ := q
    simp only [eo] at h
    split at h
    · rename_i hc; subst hc
      obtain ⟨a, C', dx, vs, q1, q2, q3, q4⟩ := obj_of S r eo
      rw [hm] at q2; cases q2
      refine ⟨a, dx, vs, q1, q3, ?_⟩
      cases ec : cl [sl] [] mu with
      | stuck => rw [ec] at h; exact h.elim
      | err _ _ => rw [ec] at h; exact h.elim
      | ok d mu2 =>
        rw [ec] at h
        intro v' H' S' x' r'
        have h : ContE X.K X.mg W B F pi rho σ H Q (Rs.ofO (back d) mu2) := h
        obtain ⟨z, ez, hz⟩ := ofO_some (α := D) (o := none) h
        exact ⟨d, z, mu2, r', ez, S', x', fun w hw => hz w H' S' x' (hw _)⟩
    · exact h.elim
theorem je_lenO (C1 : Ctx X k W) (hm : X.mg c = some (.ref C)) (mt : MetAt X.K C "__len__" g) (G : FnK X.prog X.w X.K X.mg X.base j g [] cl) (hj : j + 1 ≤ k) (he : JR X W e fr) (hml : X.mg "len" = none)
    (hg : Gl X "len" := by rfl) (hs : starEach [e] X.env = (false, eval e X.env) :: starEach [] X.env := by rfl) (hpl : (backTo pos (starEach [] X.env)).any (·.1) = false := by rfl) : JE X W (.Call (.Name "len" p) [e] [] pos) (eSpec c cl fr gLenB) := by
  obtain ⟨t, pe, d⟩ := he
  refine je_of fun pins s B F pi rho mu σ H Q I S h => ?_
  refine wpAny_Call_Name_kw (ld_blt I hg hml boot_len ?_)
  refine PyProof.Rows.callWith_builtin1 (thn ((pa_cons pe pa_nil hs).run pos pins s σ H (fun vs H1 => ∃ v mu1 sl, vs = [v] ∧ Sat X.K X.mg B F pi rho mu1 σ H1 ∧ ArgR X.K X.mg F pi H1 v sl ∧ ContE X.K X.mg W B F pi rho σ H1 Q (match objIn mu1 sl with
      | some (c', _) => if c' = c then (match cl [sl] [] mu1 with
        | .ok d mu2 => Rs.ofO (gLenB d) mu2
        | _ => .stuck) else .stuck
      | none => .stuck)) I (TDR.bindE d S h fun sl mu1 v H1 S1 x1 r1 h1 => ⟨v, mu1, sl, rfl, S1, r1, h1⟩)) fun us s1 ⟨vs, H1, I1, r, v, mu1, sl, ev, S1, r1, h1⟩ => ?_) hs hpl
  subst ev
  cases r with
  | cons ru rn =>
    cases rn
    obtain ⟨a, dx, vs, rfl, ha, hc⟩ := spec_of hm I1 S1 r1 h1
    cases ru
    obtain ⟨mA, O, _⟩ := ins_get I1.hok ha
    obtain ⟨od, J, _⟩ := O.look
    obtain ⟨mf, hF⟩ := I1.fr
    refine PySem.W.len_K hF I1.ok.mod.kin J mt.at_ mt.fn (thn (run_sp (A := X.A.in1) G ((C1.room.mono hj).in1) rfl I1 S1 (show Vals [V.ref a] [Value.ref a] from .cons rfl .nil) (.cons r1 .nil) hc) fun u s2 ⟨v', H2, I2, ru2, d', z, mu2, rp, eb, S2, x2, hz⟩ => ?_)
    cases rp with
    | int i =>
      unfold gLenB at eb
      simp only at eb
      split at eb
      · rename_i hi; cases eb
        obtain ⟨tk, rfl⟩ := ru2
        exact ⟨hi, .int i, H2, I2.tok _, ⟨_, rfl⟩, hz _ fun _ => .int i⟩
      · cases eb
    | _ => cases eb
theorem je_reprO (C1 : Ctx X k W) (hm : X.mg c = some (.ref C)) (mt : MetAt X.K C "__repr__" g) (G : FnK X.prog X.w X.K X.mg X.base j g [] cl) (hj : j + 1 ≤ k) (he : JR X W e fr) (hml : X.mg "repr" = none)
    (hg : Gl X "repr" := by rfl) (hs : starEach [e] X.env = (false, eval e X.env) :: starEach [] X.env := by rfl) (hpl : (backTo pos (starEach [] X.env)).any (·.1) = false := by rfl) : JE X W (.Call (.Name "repr" p) [e] [] pos) (eSpec c cl fr gStrB) := by
  obtain ⟨t, pe, d⟩ := he
  refine je_of fun pins s B F pi rho mu σ H Q I S h => ?_
  refine wpAny_Call_Name_kw (ld_blt I hg hml bootS_repr ?_)
  refine PyProof.Rows.callWith_builtin1 (thn ((pa_cons pe pa_nil hs).run pos pins s σ H (fun vs H1 => ∃ v mu1 sl, vs = [v] ∧ Sat X.K X.mg B F pi rho mu1 σ H1 ∧ ArgR X.K X.mg F pi H1 v sl ∧ ContE X.K X.mg W B F pi rho σ H1 Q (match objIn mu1 sl with
      | some (c', _) => if c' = c then (match cl [sl] [] mu1 with
        | .ok d mu2 => Rs.ofO (gStrB d) mu2
        | _ => .stuck) else .stuck
      | none => .stuck)) I (TDR.bindE d S h fun sl mu1 v H1 S1 x1 r1 h1 => ⟨v, mu1, sl, rfl, S1, r1, h1⟩)) fun us s1 ⟨vs, H1, I1, r, v, mu1, sl, ev, S1, r1, h1⟩ => ?_) hs hpl
  subst ev
  cases r with
  | cons ru rn =>
    cases rn
    obtain ⟨a, dx, vs, rfl, ha, hc⟩ := spec_of hm I1 S1 r1 h1
    cases ru
    obtain ⟨mA, O, _⟩ := ins_get I1.hok ha
    obtain ⟨od, J, _⟩ := O.look
    obtain ⟨mf, hF⟩ := I1.fr
    have hu : X.A.in1.units < cLine := by have := C1.room.rm.un; show X.A.units + 1 < _; omega
    refine PySem.W.repr_K hu hF I1.ok.mod.kin J mt.at_ mt.fn (thn (run_sp (A := X.A.in1) G ((C1.room.mono hj).in1) rfl I1 S1 (show Vals [V.ref a] [Value.ref a] from .cons rfl .nil) (.cons r1 .nil) hc) fun u s2 ⟨v', H2, I2, ru2, d', z, mu2, rp, eb, S2, x2, hz⟩ => ?_)
    cases rp with
    | str y =>
      cases eb
      obtain ⟨tk, rfl⟩ := ru2
      exact ⟨.str y, H2, I2, ⟨_, rfl⟩, hz _ fun _ => .str y⟩
    | _ => cases eb
end

/-! ### repr of data -/
def gRepr : List D → Option D
  | [d] => match toPy d with
    | some p => if p.showable = true ∧ p.hasDict = false ∧ p.depth ≤ 60 ∧ p.shown.length ≤ 16777216 ∧ isDisplay p = true then some (.str p.shown) else none
    | none => none
  | _ => none
theorem call_reprD {X : Cx} (hg : X.A.guards = some []) (hu : X.A.units + 64 < cLine) : CallR X (.builtin "repr") (fun xs H Q => ∃ x p, xs = [x] ∧ Dp X.K H x p ∧ p.showable = true ∧ p.hasDict = false ∧ p.depth ≤ 60 ∧ p.shown.length ≤ sizeLine ∧ isDisplay p = true ∧ Q (.str p.shown) H) := by
  intro pins s σ H xs us Q I r h
  obtain ⟨x, p, rfl, hp, h1, h2, h3, h4, h5, q⟩ := h
  cases r with
  | cons ru rn =>
    cases rn
    obtain ⟨as, rd⟩ := Dp.reads I p x _ hp ru
    obtain ⟨a, rfl⟩ := isRef_of_reads rd h5
    exact repr_of_reads' rd h1 (PyData.noDict_hsm h2) hg (by omega) (fun _ _ e => e) (fun h' u tk hk => ⟨.str p.shown, H, I.kept (t' := tk) hk, ⟨_, rfl⟩, q⟩) h4
theorem rd_repr {K : PySem.W.Frag} {mg : Str → Option Value} : RDL K mg (fun xs H Q => ∃ x p, xs = [x] ∧ Dp K H x p ∧ p.showable = true ∧ p.hasDict = false ∧ p.depth ≤ 60 ∧ p.shown.length ≤ sizeLine ∧ isDisplay p = true ∧ Q (.str p.shown) H) gRepr := by
  intro F pi H xs as d Q n r e kk
  unfold gRepr at e
  split at e
  · rename_i d0
    cases ep : toPy d0 with
    | none => rw [ep] at e; cases e
    | some p =>
      rw [ep] at e
      simp only at e
      split at e
      · rename_i hh; cases e
        cases r with
        | cons ru rn =>
          cases rn
          exact ⟨_, p, rfl, (ru.mono hid_le).dp ep, hh.1, hh.2.1, hh.2.2.1, line_of hh.2.2.2.1, hh.2.2.2.2, kk _ H (Ext.refl _) (.str _)⟩
      · cases e
  · cases e
theorem je_repr {X : Cx} {W : WX} {k : Nat} {e : Expr} {fa : FA} {p pos : Pos} (C : Ctx X k W) (hm : X.mg "repr" = none) (ha : JA X W [e] fa) (hg : Gl X "repr" := by rfl)
    (he : starEach [e] X.env = (false, eval e X.env) :: starEach [] X.env := by rfl) (hpl : (backTo pos (starEach [] X.env)).any (·.1) = false := by rfl) : JE X W (.Call (.Name "repr" p) [e] [] pos) (eA gRepr fa) :=
  je_bi (call_reprD C.room.gd C.u64) rd_repr hm ha bootS_repr hg (he := he) (hpl := hpl)

/-! ### != and == of objects with an own == -/
section
variable {prog : Program} {w : World} {A : Around} {E : Value → Shared → Prop} {s : Shared} {K : PySem.W.Frag} {x C f : Addr} {ox : Obj} {od : Option Obj}
theorem ifb_builtin {M : Model} {name : Str} {id : String} {args : List Value} {Q : Option Value → Shared → Prop} (X : K.In s.heap) (I : PySem.W.InstAt s.heap x ox C od) (hs : PySem.W.findIn K (.ref C) name = some (some (.builtin id)))
    (hb : ∀ self, bindSpecial (.builtin id) self = pure (.builtin id, [self])) (h : wpAny M A (call (.builtin id) (.ref x :: args)) (fun v => Q (some v)) E s) : wpAny M A (callSpecialIfBound? (.ref x) name args) Q E s := by
  simp only [callSpecialIfBound?, bindSpecialIfBound?]
  refine wpAny_holding (wpAny_bind (wpAny_bind (wpAny_bind (I.type.here ((PySem.W.looks_findIn X hs).here ?_)))))
  refine wpAny_bind (wpAny_askSetting (wpAny_ite ?_))
  have fin : wpAny M A (call (.builtin id) ([.ref x] ++ args) >>= fun v => pure (some v)) Q E s := wpAny_bind (wpAny_mono h (fun v s' h' => wpAny_pure h') fun _ _ h' => h')
  split
  · exact wpAny_bind (wpAny_of_eq (hb _) (wpAny_pure (by exact fin)))
  · exact wpAny_tryCatch (wpAny_bind (wpAny_of_eq (hb _) (wpAny_pure (by exact fin))))
/-- object.__ne__ of an object with an own == -/
theorem ne_obj {b : Value} {Q : Value → Shared → Prop} (hu : A.units + 1 < cLine) (X : K.In s.heap) (I : PySem.W.InstAt s.heap x ox C od) (hm : PySem.W.mroIn K C (.type "object") = some true)
    (he : PySem.W.findIn K (.ref C) "__eq__" = some (some (.ref f))) (hf : PySem.W.isFn K (.ref f) = true)
    (h : wpAny (model prog w) A.in1 (call (.ref f) [.ref x, b]) (fun v s' => ∃ c, v = .bool c ∧ Q (.bool (!c)) s') E s) : wpAny (model prog w) A (call (.builtin "object.__ne__") [.ref x, b]) Q E s := by
  refine wpAny_call (codeAny_call_builtin F.cmp_object.ne.plain F.cmpEntry_ne (PySem.W.check_slot F.cmpKind_ne F.cmpSplit_ne (I.type.andThen (PySem.W.looks_mroIn X hm)) (F.cmpArgs_ne _ _) ?_))
  unfold Builtin.«object.__ne__»
  refine wpAny_bind (m := slotArgs "__ne__" 1 _) (wpAny_pure ?_)
  refine wpAny_bind (m := cRoomFor _ _) (wpAny_cRoomFor (by show A.units + 1 < cLine; exact hu) ?_)
  refine wpAny_bind (m := callSpecialIfBound? (.ref x) "__eq__" _) (PySem.W.ifBound_K X I he hf (wpAny_mono h (fun v s' hq => ?_) fun _ _ y => y))
  obtain ⟨c, rfl, q⟩ := hq
  refine wpAny_bind (m := truthy (.bool c)) (wpAny_truthy_bool ?_)
  first
    | exact wpAny_pure q
    | exact wpAny_pure ⟨_, rfl, q⟩
theorem cmp_B {op : CmpOp} {tb b : Value} {id : String} {L : Addr} {h₀ : Heap} {m : Str → Option Value} {Q : Value → Shared → Prop} (hu : A.units < cLine) (F : Fr h₀ L s.heap m) (X₀ : K.In h₀) (I : PySem.W.InstAt s.heap x ox C od) (hb : PySem.W.Looks (model prog w) s.heap (typeOf b) tb) (hn : PySem.W.notFirst K C tb = true)
    (hs : PySem.W.findIn K (.ref C) (cmpInfo op).2.1 = some (some (.builtin id))) (hbd : ∀ self, bindSpecial (.builtin id) self = pure (.builtin id, [self]))
    (h : wpAny (model prog w) A (call (.builtin id) [.ref x, b]) (PySem.W.CmpBack Q) E s) : wpAny (model prog w) A (richCompare op (.ref x) b) Q E s := by
  have X := X₀.keeps F.keep
  have one : wpAny (model prog w) A (tryCompare (.ref x) (cmpInfo op).2.1 b) (fun r s' => ∃ v, r = some v ∧ Q v s') E s := by
    unfold tryCompare
    refine wpAny_bind (ifb_builtin X I hs hbd (wpAny_mono h (fun v s' hv => ?_) fun _ _ e => e))
    cases v <;> first | exact hv.elim | exact wpAny_pure ⟨_, rfl, hv⟩
  unfold richCompare
  simp only [oneThing_ref]
  refine wpAny_holding (wpAny_bind (wpAny_cRoomFor hu ?_))
  refine wpAny_bind (I.type.here (wpAny_bind (hb.here ?_)))
  split
  · rename_i q
    have e : PySem.W.subIn K tb (.ref C) = some false := by
      rcases Bool.or_eq_true_iff.mp hn with e | e
      · rw [beq_iff_eq.mp e] at q; simp at q
      · exact beq_iff_eq.mp e
    refine wpAny_bind ((PySem.W.looks_subIn X e).here ?_)
    simp only [Bool.false_eq_true, if_false]
    refine wpAny_bind (wpAny_mono one (fun r s' z => ?_) fun _ _ e => e)
    obtain ⟨v, rfl, hq⟩ := z
    exact wpAny_pure hq
  · refine wpAny_bind (wpAny_pure ?_)
    simp only [Bool.false_eq_true, if_false]
    refine wpAny_bind (wpAny_mono one (fun r s' z => ?_) fun _ _ e => e)
    obtain ⟨v, rfl, hq⟩ := z
    exact wpAny_pure hq
end
/-- a == b, a != b of two objects of the class c: the own == answers -/
def eqoR (neg : Bool) (c : Str) (cl : List Sl → List Sl → List D → Rs D) (mu : List D) : D → D → Rs D
  | .obj c1 fs, .obj c2 gs => if c1 = c ∧ c2 = c then (match cl [.dat (.obj c1 fs), .dat (.obj c2 gs)] [] mu with
    | .ok (.bl r) mu3 => .ok (.bl (if neg then !r else r)) mu3
    | _ => .stuck) else .stuck
  | _, _ => .stuck
def eEqO (neg : Bool) (c : Str) (cl : List Sl → List Sl → List D → Rs D) (f1 f2 : FE) : FE := fun rho mu => (f1 rho mu).bind fun a mu1 => (f2 rho mu1).bind fun b mu2 => eqoR neg c cl mu2 a b
section
variable {X : Cx} {W : WX} {k j : Nat} {g C : Addr} {cl : List Sl → List Sl → List D → Rs D} {a b : Expr} {c : Str} {f1 f2 : FE} {pos : Pos}
theorem eqo_cmp (neg : Bool) (C1 : Ctx X k W) (hm : X.mg c = some (.ref C)) (mt : MetAt X.K C "__eq__" g) (mo : PySem.W.mroIn X.K C (.type "object") = some true) (mn : PySem.W.findIn X.K (.ref C) "__ne__" = some (some (.builtin "object.__ne__")))
    (G : FnK X.prog X.w X.K X.mg X.base j g [] cl) (hj : j + 1 ≤ k) {pins : List (Addr × Obj)} {s : Shared} {B : Hp} {F : Addr → Bool} {pi : List (Option Addr)} {rho : List Sl} {mu : List D} {σ : L2.St} {H : Hp} {Q : VK} {x y : V} {u v : Value} {d e : D}
    (I : Inv X pins σ H s) (S : Sat X.K X.mg B F pi rho mu σ H) (rx : RelV x u) (ry : RelV y v) (ra : Rp X.K X.mg (hid F pi H) x d) (rb : Rp X.K X.mg (hid F pi H) y e)
    (h : ContE X.K X.mg W B F pi rho σ H Q (eqoR neg c cl mu d e)) : wpAny (model X.prog X.w) X.A (compareOp (if neg then .NotEq else .Eq) u v) (EP X pins σ Q) X.xe s := by
  cases ra with
  | @obj a1 C1' dx c1 fs ds1 m1 h1 rf1 =>
    cases rb with
    | @obj a2 C2' dy c2 gs ds2 m2 h2 rf2 =>
      have h0 := h
      clear h
      have h : ContE X.K X.mg W B F pi rho σ H Q (if c1 = c ∧ c2 = c then (match cl [.dat (.obj c1 ds1), .dat (.obj c2 ds2)] [] mu with
        | .ok (.bl r) mu3 => .ok (.bl (if neg then !r else r)) mu3
        | _ => .stuck) else .stuck) := h0
      clear h0
      by_cases hc : c1 = c ∧ c2 = c
      · rw [if_pos hc] at h
        obtain ⟨z1, z2⟩ := hc
        subst z1
        subst z2
        rw [hm] at m1 m2; cases m1; cases m2
        cases rx; cases ry
        have ha := hid_le _ _ h1
        have hb := hid_le _ _ h2
        obtain ⟨mA, O, _⟩ := ins_get I.hok ha
        obtain ⟨od, J, _⟩ := O.look
        obtain ⟨mB, O', _⟩ := ins_get I.hok hb
        obtain ⟨od', J', _⟩ := O'.look
        obtain ⟨mf, hF⟩ := I.fr
        have hu0 : X.A.units < cLine := C1.room.rm.units0
        have hu1 : X.A.units + 1 < cLine := by have := C1.room.rm.un; omega
        have hu2 : X.A.units + 1 + 1 < cLine := by have := C1.room.rm.un; omega
        have rp1 : Rp X.K X.mg (hid F pi H) (.ref a1) (.obj c2 ds1) := .obj hm h1 rf1
        have rp2 : Rp X.K X.mg (hid F pi H) (.ref a2) (.obj c2 ds2) := .obj hm h2 rf2
        have key : ∀ (A : Around) (Q' : VK), RoomG j A → A.frames = X.A.frames → (∀ r mu3, cl [.dat (.obj c2 ds1), .dat (.obj c2 ds2)] [] mu = .ok (.bl r) mu3 → ∀ H', Sat X.K X.mg B F pi rho mu3 σ H' → Ext (hid F pi H) (hid F pi H') → Q' (.bl r) H') →
            wpAny (model X.prog X.w) A (call (.ref g) [.ref a1, .ref a2]) (EP X pins σ Q') X.xe s := fun A Q' hr hfr hq => by
          refine run_sp (A := A) G hr hfr I S (show Vals [V.ref a1, V.ref a2] [Value.ref a1, Value.ref a2] from .cons rfl (.cons rfl .nil)) (.cons (.dat rp1) (.cons (.dat rp2) .nil)) ?_
          cases ec : cl [.dat (.obj c2 ds1), .dat (.obj c2 ds2)] [] mu with
          | stuck => rw [ec] at h; exact h.elim
          | err _ _ => rw [ec] at h; exact h.elim
          | ok z mu3 =>
            cases z with
            | bl r =>
              intro v' H' S' x' r'
              cases r'
              exact hq r mu3 ec H' S' x'
            | _ => rw [ec] at h; exact h.elim
        cases neg with
        | false =>
          show wpAny _ _ (richCompare .Eq (.ref a1) (.ref a2)) _ _ _
          refine PySem.W.cmp_K (op := .Eq) (tb := .ref C) hu0 hF I.ok.mod.kin J J'.type (by simp [PySem.W.notFirst]) mt.at_ mt.fn (thn (key X.A (fun v H' => Q v H' ∧ ∃ r, v = .bl r) (C1.room.mono (Nat.le_of_succ_le hj)) rfl fun r mu3 ec H' S' x' => ?_) fun u s2 ⟨v', H2, I2, ru2, q, r, er⟩ => ?_)
          · rw [ec] at h
            exact ⟨h _ H' S' x' (.bl r), r, rfl⟩
          · subst er; cases ru2
            exact ⟨.bl r, H2, I2, rfl, q⟩
        | true =>
          show wpAny _ _ (richCompare .NotEq (.ref a1) (.ref a2)) _ _ _
          refine cmp_B (op := .NotEq) (tb := .ref C) hu0 hF I.ok.mod.kin J J'.type (by simp [PySem.W.notFirst]) mn PySem.F.cmp_object.ne.bind ?_
          refine ne_obj hu1 I.kIn J mo mt.at_ mt.fn (thn (key X.A.in1 (fun v H' => ∃ r, v = .bl r ∧ Q (.bl (!r)) H') ((C1.room.mono hj).in1) rfl fun r mu3 ec H' S' x' => ?_) fun u s2 ⟨v', H2, I2, ru2, r, er, q⟩ => ?_)
          · rw [ec] at h
            exact ⟨r, rfl, h _ H' S' x' (.bl _)⟩
          · subst er; cases ru2
            exact ⟨r, rfl, .bl (!r), H2, I2, rfl, q⟩
      · rw [if_neg hc] at h; exact h.elim
    | _ => exact h.elim
  | _ => exact h.elim
theorem eqo_pc (neg : Bool) (C1 : Ctx X k W) (hm : X.mg c = some (.ref C)) (mt : MetAt X.K C "__eq__" g) (mo : PySem.W.mroIn X.K C (.type "object") = some true) (mn : PySem.W.findIn X.K (.ref C) "__ne__" = some (some (.builtin "object.__ne__")))
    (G : FnK X.prog X.w X.K X.mg X.base j g [] cl) (hj : j + 1 ≤ k) (ha : JE X W a f1) (hb : JE X W b f2) : ∃ t, PC X (if neg then .NotEq else .Eq) a b t ∧ TD X.K X.mg W t (eEqO neg c cl f1 f2) := by
  obtain ⟨t, pe, d⟩ := ha
  obtain ⟨t', pe', d'⟩ := hb
  refine ⟨tX X W (eEqO neg c cl f1 f2), ⟨fun pins s σ H Q I ⟨B, F, pi, rho, mu, S, h⟩ => ?_⟩, tx_td⟩
  refine bin pe pe' I (TD.bind d S h fun z mu1 v H1 S1 x1 r1 h1 => TD.bind d' S1 h1 fun z2 mu2 v2 H2 S2 x2 r2 h2 => ?_) (R := fun x y H2 => ∃ z z2 mu2, Sat X.K X.mg B F pi rho mu2 σ H2 ∧ Rp X.K X.mg (hid F pi H2) x z ∧ Rp X.K X.mg (hid F pi H2) y z2 ∧ ContE X.K X.mg W B F pi rho σ H2 Q (eqoR neg c cl mu2 z z2)) fun v u s2 x y H2 I2 rx ry ⟨z, z2, mu2, S2, q1, q2, q3⟩ => eqo_cmp neg C1 hm mt mo mn G hj I2 S2 rx ry q1 q2 q3
  exact ⟨z, z2, mu2, S2, r1.mono x2, r2, h2⟩
theorem je_neO (C1 : Ctx X k W) (hm : X.mg c = some (.ref C)) (mt : MetAt X.K C "__eq__" g) (mo : PySem.W.mroIn X.K C (.type "object") = some true) (mn : PySem.W.findIn X.K (.ref C) "__ne__" = some (some (.builtin "object.__ne__")))
    (G : FnK X.prog X.w X.K X.mg X.base j g [] cl) (hj : j + 1 ≤ k) (ha : JE X W a f1) (hb : JE X W b f2) : JE X W (.Compare a [.NotEq] [b] pos) (eEqO true c cl f1 f2) := let ⟨_, p, d⟩ := eqo_pc true C1 hm mt mo mn G hj ha hb; ⟨_, pe_cmp p (nomark b), d⟩
theorem jt_neO (C1 : Ctx X k W) (hm : X.mg c = some (.ref C)) (mt : MetAt X.K C "__eq__" g) (mo : PySem.W.mroIn X.K C (.type "object") = some true) (mn : PySem.W.findIn X.K (.ref C) "__ne__" = some (some (.builtin "object.__ne__")))
    (G : FnK X.prog X.w X.K X.mg X.base j g [] cl) (hj : j + 1 ≤ k) (ha : JE X W a f1) (hb : JE X W b f2) : JT X W (.Compare a [.NotEq] [b] pos) (eEqO true c cl f1 f2) := let ⟨_, p, d⟩ := eqo_pc true C1 hm mt mo mn G hj ha hb; ⟨_, pt_cmp p (nomark b), tdt_B d⟩
theorem je_eqO (C1 : Ctx X k W) (hm : X.mg c = some (.ref C)) (mt : MetAt X.K C "__eq__" g) (mo : PySem.W.mroIn X.K C (.type "object") = some true) (mn : PySem.W.findIn X.K (.ref C) "__ne__" = some (some (.builtin "object.__ne__")))
    (G : FnK X.prog X.w X.K X.mg X.base j g [] cl) (hj : j + 1 ≤ k) (ha : JE X W a f1) (hb : JE X W b f2) : JE X W (.Compare a [.Eq] [b] pos) (eEqO false c cl f1 f2) := let ⟨_, p, d⟩ := eqo_pc false C1 hm mt mo mn G hj ha hb; ⟨_, pe_cmp p (nomark b), d⟩
theorem jt_eqO (C1 : Ctx X k W) (hm : X.mg c = some (.ref C)) (mt : MetAt X.K C "__eq__" g) (mo : PySem.W.mroIn X.K C (.type "object") = some true) (mn : PySem.W.findIn X.K (.ref C) "__ne__" = some (some (.builtin "object.__ne__")))
    (G : FnK X.prog X.w X.K X.mg X.base j g [] cl) (hj : j + 1 ≤ k) (ha : JE X W a f1) (hb : JE X W b f2) : JT X W (.Compare a [.Eq] [b] pos) (eEqO false c cl f1 f2) := let ⟨_, p, d⟩ := eqo_pc false C1 hm mt mo mn G hj ha hb; ⟨_, pt_cmp p (nomark b), tdt_B d⟩
end
end DL

set_option maxHeartbeats 4000000
/-! DLo: star parameters, properties, class constants, class methods, a class in a local name, isinstance, enumerate of a tuple, a star among targets. -/
namespace DL
open PySem PySem.Spec PyProof.Rows L2 ClX

/-! ### def f(a, .., *v) -/
def datsS : List Sl → Option (List D)
  | [] => some []
  | .dat d :: r => (datsS r).map (d :: ·)
  | _ => none
/-- the mirror behind a star parameter: n written ones, the rest a tuple -/
def cStar (m : Mir) (n : Nat) (ss ts : List Sl) (mu : List D) : Rs D :=
  if n ≤ ss.length ∧ ss.length ≤ 16777216 ∧ ts.length = 0 then (match datsS (ss.drop n) with
    | some ds => callM m (ss.take n ++ [.dat (.tup ds)]) mu
    | none => .stuck) else .stuck
section
variable {K : PySem.W.Frag} {mg : Str → Option Value} {F : Addr → Bool} {pi : List (Option Addr)} {H : Hp}
theorem ArgsR.take : ∀ {vs : List V} {ss : List Sl} (n : Nat), ArgsR K mg F pi H vs ss → ArgsR K mg F pi H (vs.take n) (ss.take n)
  | _, _, 0, _ => .nil
  | _, _, _ + 1, .nil => .nil
  | _, _, n + 1, .cons a r => .cons a (ArgsR.take n r)
theorem ArgsR.drop : ∀ {vs : List V} {ss : List Sl} (n : Nat), ArgsR K mg F pi H vs ss → ArgsR K mg F pi H (vs.drop n) (ss.drop n)
  | _, _, 0, r => r
  | _, _, _ + 1, .nil => .nil
  | _, _, n + 1, .cons _ r => ArgsR.drop n r
theorem ArgsR.dats : ∀ {vs : List V} {ss : List Sl} {ds : List D}, ArgsR K mg F pi H vs ss → datsS ss = some ds → RpL K mg (hid F pi H) vs ds
  | _, _, _, .nil, e => by cases e; exact .nil
  | _, _, _, .cons (ss := ss) (.dat a) r, e => by
    unfold datsS at e
    cases q : datsS ss with
    | none => rw [q] at e; cases e
    | some es => rw [q] at e; cases e; exact .cons a (ArgsR.dats r q)
  | _, _, _, .cons (.own _) _, e => by cases e
end
/-- THE RULE of a def with a star parameter -/
theorem fn_gs {P : Program} {w : World} {K : PySem.W.Frag} {mg : Str → Option Value} {base : Heap} {k : Nat} {f : Addr} {fd : FuncData} {x qual : Str} {params : Arguments} {body : List Stmt} {scope : Scope} {N ps : List Str} {pv : Str} {fs : FS}
    (D0 : FunD K x qual params body scope [] [] f fd) (S : FnScope N (ps ++ [pv]) scope)
    (hb : ∀ (kV doc pm : Value) (an : Option Addr) (cdv ct : Value) (us rest : List Value), us.length = ps.length → bindArgs (PySem.W.fnOf x qual params body scope .none kV doc pm an cdv ct) ⟨us ++ rest, []⟩ = (newTuple rest >>= fun t => pure (ps.zip us ++ [(pv, t)])))
    (hbody : ∀ (cdv : Value) (A : Around) (outer : List Env) (s : Shared) (H : Hp) (E : XK), Ctx (cxOf (L2.CX P w) P w K mg base N qual scope f cdv A outer s H E) k (WB E) → Own (cxOf (L2.CX P w) P w K mg base N qual scope f cdv A outer s H E) →
      JSs (cxOf (L2.CX P w) P w K mg base N qual scope f cdv A outer s H E) (WB E) body fs) :
    FnK P w K mg base (k + 1) f [] (cStar (mirB N.length fs) ps.length) := by
  obtain ⟨oc, od, dV, kV, doc, pm, an, cdv, ct, osl, rfl, lk, hcd, hD, _⟩ := D0.ex
  rcases hD with ⟨_, rfl⟩ | ⟨e, _⟩
  · refine ⟨fun A outer s H us ws vs zs Q E B F pi rho mu σ ss ts hr e0 rv rz S0 ra rt h => ?_⟩
    unfold cStar at h
    split at h
    · rename_i hl
      cases ed : datsS (ss.drop ps.length) with
      | none => rw [ed] at h; exact h.elim
      | some ds =>
        rw [ed] at h
        have r1 := ra.take ps.length
        have r2 := (ra.drop ps.length).dats ed
        have lv : vs.length = ss.length := ra.length
        have lu : us.length = vs.length := rv.length.symm
        have ew : ws = [] := by
          have := rz.length.symm.trans (rt.length.trans hl.2.2)
          exact List.length_eq_zero_iff.mp this
        subst ew
        have l1 : (us.take ps.length).length = ps.length := by rw [List.length_take]; omega
        have zr : (vs.drop ps.length).length ≤ sizeLine := by rw [List.length_drop, sizeLine_eq]; omega
        have zu : (us.drop ps.length).length ≤ sizeLine := by rw [List.length_drop, sizeLine_eq]; omega
        have hn : H s.heap.objs.size = Option.none := e0.hok.fresh (Nat.le_refl _)
        show codeAny (model P w) A (.call (.ref f) ⟨us, []⟩) _ s
        have eu : us = us.take ps.length ++ us.drop ps.length := (List.take_append_drop _ _).symm
        rw [eu]
        refine StX.run_bnd lk hcd S hr.rm e0 (G := fun xs H2 => ∃ p, H p = Option.none ∧ xs = vs.take ps.length ++ [V.ref p] ∧ H2 = upd H p (.tup (vs.drop ps.length))) (fun A' Ex Q' q => ?_) fun s2 H2 xs ⟨p, hp, ex, eH⟩ hr' => ?_
        · rw [hb kV doc pm an cdv ct _ _ l1]
          refine wpAny_bind (wpAny_newTuple (wpAny_pure ?_) zu)
          have new : ObjOk P w (upd H s.heap.objs.size (.tup (vs.drop ps.length))) (s.heap.push ({ cls := .type "tuple", data := .seq (us.drop ps.length).toArray } : Obj)) s.heap.objs.size (.tup (vs.drop ps.length)) := ⟨zr, us.drop ps.length, rv.drop _, ⟨_, Heap.get?_push_size _ rfl, rfl, _, rfl⟩⟩
          have un := StX.un_laid (fs := frs outer) (s := s) (o := ({ cls := .type "tuple", data := .seq (us.drop ps.length).toArray } : Obj)) (u := .tup (vs.drop ps.length)) hn
          have z := q _ _ (vs.take ps.length ++ [V.ref s.heap.objs.size]) (us.take ps.length ++ [Value.ref s.heap.objs.size]) (StX.env0_laid e0 new) un rfl (fun e s' => StX.cxUp outer s H _ _ E e s' un (fun b o w => Heap.get?_push_of_some _ w) rfl) ((rv.take _).append (.cons rfl .nil))
            (by rw [List.length_append, List.length_append, (rv.take ps.length).length, l1] <;> rfl) ⟨_, hn, rfl, rfl⟩
          rw [List.zip_append l1.symm] at z
          exact z
        · subst ex eH
          have C : Ctx (cxOf (L2.CX P w) P w K mg base N qual scope f cdv A outer s2 (upd H p (.tup (vs.drop ps.length))) E) k (WB E) := ⟨rfl, S.nd, ⟨hr', hr.gd⟩, takes_of rfl rfl rfl rfl⟩
          obtain ⟨t, ht, hd⟩ := hbody cdv A outer s2 (upd H p (.tup (vs.drop ps.length))) E C (passes_of (X := cxOf (L2.CX P w) P w K mg base N qual scope f cdv A outer s2 (upd H p (.tup (vs.drop ps.length))) E) rfl)
          refine ⟨t, ht, body_of (N := N) (E := E) hd ?_ ?_⟩
          · have := congrArg List.length S.pre
            rw [List.length_take, List.length_append] at this
            rw [List.length_append, List.length_take]
            simp at this ⊢
            omega
          · obtain ⟨n1, n2⟩ := Ext.hidNew (F := F) (pi := pi) (o := .tup (vs.drop ps.length)) hp (S0.new_hid hp)
            refine call_sp (W := fun cls dd _ H' => E cls dd H') (S0.ext' (Ext.new hp)) ((r1.mono n2).app (.cons (.dat (.tup (.inl (.inl n1)) (r2.mono n2))) .nil)) (ContE.up n2 h)
    · exact h.elim
  · exact absurd rfl e

/-! ### properties, class constants -/
section
variable {X : Cx} {W : WX} {k j : Nat} {g C p : Addr} {cl : List Sl → List Sl → List D → Rs D} {e : Expr} {c f : Str} {fr : FR} {pos : Pos}
theorem je_prop (C1 : Ctx X k W) (hm : X.mg c = some (.ref C)) (cc : Cls X.K C) (hp : PropOf X.K C f p g) (G : FnK X.prog X.w X.K X.mg X.base j g [] cl) (hj : j + 1 ≤ k) (he : JR X W e fr)
    (hab : attributeBase e f X.env (eval e X.env) = eval e X.env := by rfl) : JE X W (.Attribute e f pos) (eSpec c cl fr some) := by
  obtain ⟨t, pe, d⟩ := he
  refine je_of fun pins s B F pi rho mu σ H Q I S h => ?_
  refine attr_of hab (thn (pe.run pins s σ H (fun v H1 => ∃ mu1 sl, Sat X.K X.mg B F pi rho mu1 σ H1 ∧ ArgR X.K X.mg F pi H1 v sl ∧ ContE X.K X.mg W B F pi rho σ H1 Q (match objIn mu1 sl with
      | some (c', _) => if c' = c then (match cl [sl] [] mu1 with
        | .ok d mu2 => Rs.ofO (some d) mu2
        | _ => .stuck) else .stuck
      | none => .stuck)) I (TDR.bindE d S h fun sl mu1 v H1 S1 x1 r1 h1 => ⟨mu1, sl, S1, r1, h1⟩)) fun u s1 ⟨v, H1, I1, ru, mu1, sl, S1, r1, h1⟩ => ?_)
  cases eo : objIn mu1 sl with
  | none => simp only [eo] at h1; exact h1.elim
  | some q =>
    obtain ⟨c', fs⟩ := q
    simp only [eo] at h1
    split at h1
    · rename_i hc; subst hc
      obtain ⟨a, C', dx, vs, q1, q2, q3, q4⟩ := obj_of S1 r1 eo
      rw [hm] at q2; cases q2
      subst q1
      obtain rfl : u = Value.ref a := ru
      obtain ⟨mA, O, _, _, _, _⟩ := ins_get I1.hok q3
      obtain ⟨od, J, _⟩ := O.look
      obtain ⟨rest, hrec⟩ := hp.rec_
      have I2 := I1.tok (s1.toks + 1)
      have hcl : (PySem.W.clsIn X.K C).isSome = true := by
        obtain ⟨cd, q, _⟩ := PySem.W.any_some cc.hd
        rw [q]; rfl
      have hc2 : ContE X.K X.mg WF B F pi rho σ H1 Q (cl [sl] [] mu1) := by
        cases ec : cl [sl] [] mu1 with
        | stuck => rw [ec] at h1; exact h1.elim
        | err _ _ => rw [ec] at h1; exact h1.elim
        | ok d mu2 => rw [ec] at h1; exact h1
      refine PySem.W.get_bind I1.kIn J (PySem.W.plainGet_of (cc.get f)).1 (PySem.W.findObj_data hcl hp.at_ hp.get hp.tak) (PySem.W.plainGet_of (cc.get f)).2 (wpAny_call (PySem.W.prop_get (s := { s1 with toks := s1.toks + 1 }) I1.kIn hrec ?_))
      have e0 : Env0 X.prog X.w X.K X.mg X.base X.A.in1 X.stack { s1 with toks := s1.toks + 1 } H1 := I2.env0.in1
      refine codeAny_mono (G.run X.A.in1 X.stack { s1 with toks := s1.toks + 1 } H1 [.ref a] [] [.ref a] [] Q (fun _ _ _ => False) B F pi rho mu1 σ [sl] [] ((C1.room.mono hj).in1) e0 (show Vals [V.ref a] [Value.ref a] from .cons rfl .nil) .nil S1 (.cons r1 .nil) .nil hc2) fun r s' hq => ?_
      cases r with
      | error er =>
        obtain ⟨_, _, _, _, _, _, _, _, _, _, _, _, z⟩ := hq
        exact z.elim
      | ok fl =>
        cases fl with
        | ret u2 =>
          obtain ⟨v, H', I3, rv, q3⟩ := I2.after hq
          show wpAny _ _ (handedOut u2) _ _ _
          rw [PySem.W.handedOut_of (handed_of rv)]
          exact wpAny_pure ⟨v, H', I3, rv, q3⟩
        | next => exact False.elim hq
        | brk => exact False.elim hq
        | cont => exact False.elim hq
    · exact h1.elim
/-- C.f, a constant of the class -/
theorem je_cval {mc : Value} {x : Str} {d : D} {v : V} {u : Value} {pn : Pos} (hm : X.mg x = some (.ref C)) (r : CRead X.K C mc) (kv : CVal X.K C mc f v u) (rp : ∀ H, Rp X.K X.mg H v d) (hg : Gl X x := by rfl) (hd : (x == ("__debug__" : Str)) = false := by decide)
    (hb : attributeBase (.Name x pn) f X.env (eval (.Name x pn) X.env) = eval (.Name x pn) X.env := by rfl) : JE X W (.Attribute (.Name x pn) f pos) (eC d) := by
  refine ⟨_, pe_cval (pe_glob (v := .ref C) hg hm rfl hd) hb, fun B F pi rho mu σ H Q S h => ?_⟩
  exact ⟨C, mc, v, u, rfl, r, kv, h v H S (Ext.refl _) (rp _)⟩
end

/-! ### class methods; a class in a local name -/
def eCls (c : Str) (cl : List Sl → List Sl → List D → Rs D) (fa : FL) : FE := fun rho mu => (fa rho mu).bind fun ss mu1 => cl (.dat (.cls c) :: ss) [] mu1
def eCallV (c : Str) (i : Nat) (cl : List Sl → List Sl → List D → Rs D) (fa : FL) : FE := fun rho mu => match rho[i]? with
  | some (.dat (.cls c')) => if c' = c then (fa rho mu).bind fun ss mu1 => cl ss [] mu1 else .stuck
  | _ => .stuck
section
variable {X : Cx} {W : WX} {k j : Nat} {g C p : Addr} {cl : List Sl → List Sl → List D → Rs D} {o e : Expr} {es : List Expr} {c m : Str} {fa : FL} {pl : Sem Bool} {pos apos pn : Pos} {mc : Value}
/-- C.m(e, ..), m a class method -/
theorem je_cmeth (C1 : Ctx X k W) (hm : X.mg c = some (.ref C)) (r : CRead X.K C mc) (cm : CMet X.K C mc m p g) (G : FnK X.prog X.w X.K X.mg X.base j g [] cl) (hj : j ≤ k) (ha : JL X W (e :: es) fa) (hg : Gl X c := by rfl) (hdb : (c == ("__debug__" : Str)) = false := by decide)
    (hst : starEach (e :: es) X.env = (false, eval e X.env) :: starEach es X.env := by rfl) (hpl : (backTo pos (starEach es X.env)).any (·.1) = false := by rfl)
    (ht : eval (.Call (.Attribute (.Name c pn) m apos) (e :: es) [] pos) X.env = (do
      let ov ← eval (.Name c pn) X.env
      standAt apos.atName
      let (f, first) ← holding [ov] (getMethod ov m pl)
      callWith pos f first (backTo pos (starEach (e :: es) X.env)) (backToKw pos (keywordEach [] X.env))) := by rfl) : JE X W (.Call (.Attribute (.Name c pn) m apos) (e :: es) [] pos) (eCls c cl fa) := by
  obtain ⟨ta, pa, da⟩ := ha
  refine je_of fun pins s B F pi rho mu σ H Q I S h => ?_
  refine PySem.W.methodCall_KW (pl := pl) (ld_glob I hg hm ?_ hdb) ht
  refine getmethcm_ok I r cm fun s2 I2 => ?_
  refine callwith_cm I2 (base_none I (Nat.le_refl _)) cm.fi (thn (pa.run pos _ s2 σ H (fun vs H1 => ∃ mu1 ss, Sat X.K X.mg B F pi rho mu1 σ H1 ∧ ArgsR X.K X.mg F pi H1 vs ss ∧ ContE X.K X.mg W B F pi rho σ H1 Q (cl (.dat (.cls c) :: ss) [] mu1)) I2
    (TDL.bindE da S h fun ss mu1 vs H1 S1 x1 r1 h1 => ⟨mu1, ss, S1, r1, h1⟩)) fun us s3 ⟨vs, H1, I3, rv, mu1, ss, S1, r1, h1⟩ => ⟨⟨pin_at I3, I3.kIn⟩, ?_⟩) hst hpl
  have z : wpAny (model X.prog X.w) X.A (call (.ref s.heap.objs.size) us) (EP X ((s.heap.objs.size, PySem.W.methodObj (.ref g) (.ref C)) :: pins) σ Q) X.xe s3 := by
    refine wpAny_call (PySem.W.method_call (pin_at I3) ?_)
    refine codeAny_mono (G.run X.A X.stack s3 H1 (.ref C :: us) [] (.ref C :: vs) [] Q (WE W σ) B F pi rho mu1 σ (.dat (.cls c) :: ss) [] (C1.room.mono hj) I3.env0 (.cons rfl rv) .nil S1 (.cons (.dat (.cls hm)) r1) .nil h1.at_) fun r s' hq => ?_
    cases r with
    | error er => exact (passAt C1.takes σ) _ H1 s3 er s' I3 hq
    | ok fl =>
      cases fl with
      | ret u => exact I3.after hq
      | next => exact False.elim hq
      | brk => exact False.elim hq
      | cont => exact False.elim hq
  exact thn z fun _ _ y => unpinE y
/-- x(e, ..), x a local name that holds the class c -/
theorem je_callV (i : Nat) {x : Str} (hm : X.mg c = some (.ref C)) (hc : Cal X W (.ref C) [] cl) (ha : JL X W (e :: es) fa) (hN : X.N[i]? = some x := by rfl) (hv : Vis X.env.scope x := by first | exact Or.inl rfl | exact Or.inr (Or.inl rfl) | exact Or.inr (Or.inr rfl)) (hdb : (x == ("__debug__" : Str)) = false := by decide)
    (hcd : (x == ("__classdict__" : Str)) = false := by decide) (he : starEach (e :: es) X.env = (false, eval e X.env) :: starEach es X.env := by rfl) (hpl : (backTo pos (starEach es X.env)).any (·.1) = false := by rfl) : JE X W (.Call (.Name x pn) (e :: es) [] pos) (eCallV c i cl fa) := by
  obtain ⟨ta, pa, da⟩ := ha
  refine je_of fun pins s B F pi rho mu σ H Q I S h => ?_
  unfold eCallV at h
  split at h
  · rename_i c' ei
    split at h
    · rename_i hcc; subst hcc
      obtain ⟨v, e1, r1⟩ := S.dat i _ ei
      cases r1 with
      | cls m1 =>
        rw [hm] at m1; cases m1
        refine wpAny_Call_Name_kw (thn ((pe_var (pos := pn) hN hv hdb hcd).run pins s σ H (fun v H1 => v = .ref C ∧ H1 = H) I ⟨.ref C, e1, rfl, rfl⟩) fun u s1 ⟨v, H1, I1, ru, q1⟩ => ?_)
        obtain ⟨rfl, rfl⟩ := q1
        cases ru
        refine PySem.W.callWith_K (h₀ := X.base) I.ok.mod.kin hc.kp (thn (pa.run pos pins s1 σ _ (fun vs H2 => ∃ mu1 ss, Sat X.K X.mg B F pi rho mu1 σ H2 ∧ ArgsR X.K X.mg F pi H2 vs ss ∧ ContE X.K X.mg W B F pi rho σ H2 Q (cl ss [] mu1)) I1
          (TDL.bindE da S h fun ss mu1 vs H2 S1 x1 r1 h1 => ⟨mu1, ss, S1, r1, h1⟩)) fun us s2 ⟨vs, H2, I2, r, mu1, ss, S1, r1, h1⟩ => ⟨I2.kIn, ?_⟩) he hpl
        exact hc.run pins s2 B F pi rho mu1 σ H2 Q vs [] us [] ss [] I2 S1 r .nil r1 .nil h1
    · exact h.elim
  · exact h.elim
end

/-! ### isinstance -/
/-- how the classes stand to one another: an instance of the class a is one of the class c: b -/
def IsiOk (K : PySem.W.Frag) (mg : Str → Option Value) (a c : Str) (b : Bool) : Prop := ∀ A C, mg a = some (.ref A) → mg c = some (.ref C) → Cls K A ∧ PySem.W.findIn K (.ref A) "__class__" = some (some (.builtin "object.__class__")) ∧
  PySem.W.specialIn K (.builtin "object.__class__") "__get__" = some (some (.builtin "getset_descriptor.__get__")) ∧ PySem.W.takesIn K (.builtin "object.__class__") = some true ∧ PySem.W.mroIn K A (.type "object") = some true ∧ PySem.W.kitOne K (.ref A) (.ref C) = some b
/-- isinstance(o, c); the table tells of each class -/
def gIsi (tb : List (Str × Str × Bool)) : List D → Option D
  | [.obj a _, .cls c] => (tb.find? fun r => r.1 == a && r.2.1 == c).map fun r => .bl r.2.2
  | _ => none
theorem rd_isi {K : PySem.W.Frag} {mg : Str → Option Value} {tb : List (Str × Str × Bool)} (ok : ∀ r ∈ tb, IsiOk K mg r.1 r.2.1 r.2.2) : RDL K mg (rIsi K) (gIsi tb) := by
  intro F pi H xs as d Q n r e kk
  unfold gIsi at e
  split at e
  · rename_i a fs c
    cases ef : tb.find? fun r => r.1 == a && r.2.1 == c with
    | none => rw [ef] at e; cases e
    | some q =>
      rw [ef] at e; cases e
      have hq := List.find?_some ef
      have hin := List.mem_of_find?_eq_some ef
      obtain ⟨q1, q2, b⟩ := q
      simp only [Bool.and_eq_true, beq_iff_eq] at hq
      obtain ⟨rfl, rfl⟩ := hq
      cases r with
      | cons r1 r2 =>
        cases r2 with
        | cons r2 r3 =>
          cases r3
          cases r1 with
          | obj m1 h1 rf =>
            cases r2 with
            | cls m2 =>
              obtain ⟨o1, o2, o3, o4, o5, o6⟩ := ok _ hin _ _ m1 m2
              exact ⟨_, _, _, _, b, rfl, .own _, .base (.ins (hid_le _ _ h1) o1 o2 o3 o4 o5), o6, kk _ H (Ext.refl _) (.bl b)⟩
  · cases e

/-! ### enumerate of a tuple -/
section
variable {prog : Program} {w : World} {A : Around} {E : Value → Shared → Prop} {s : Shared}
theorem tup_begins {v : Value} {o : Obj} {Hh : Heap → Prop} (Bg : Begins v o Hh) :
    Meets (Builtin.«enumerate.__new__» ⟨[.type "enumerate", v], []⟩) (fun _ R s => Hh s.heap ∧
      R (.ok (.ret (.ref (s.heap.push o).objs.size))) { s with heap := (s.heap.push o).push { cls := .type "enumerate", data := .fields #[.none, .bool false, .ref s.heap.objs.size, rawInt 0, .none, .none] } }) :=
  .of_wp fun prog w A R s h => by
    obtain ⟨hp, g, d, tk, os⟩ := s; obtain ⟨h1, h⟩ := h
    have hsub := sub_enumerate
    have q1 : ∀ {A' : Around} {E : Value → Shared → Prop} {Q : Value → Shared → Prop}, Q (.ref hp.objs.size) ⟨hp.push o, g, d, tk, os⟩ → wpAny (model prog w) A' (pyIter v) Q E ⟨hp, g, d, tk, os⟩ :=
      fun q => Bg.iter prog w _ _ ⟨hp, g, d, tk, os⟩ _ h1 q
    wp_walk using q1
    refine wpAny_stack_any fun st => wpAny_pure ?_
    split
    · rename_i c _ _ _ _ _
      cases (c == Value.type "enumerate")
      · wp_walk using q1
        exact ⟨_, rfl, h⟩
      · wp_walk using q1
        exact ⟨_, rfl, h⟩
    · wp_walk using q1
      exact ⟨_, rfl, h⟩
theorem call_enumT {l : Addr} {items : Array Value} {Q : Value → Shared → Prop} (hL : IsTup s.heap l items)
    (h : ∀ h', IsEnum h' (s.heap.objs.size + 1) s.heap.objs.size 0 .none → h'.IsTupleIter s.heap.objs.size l 0 → h'.objs.size = s.heap.objs.size + 2 →
      (∀ b o, s.heap.get? b = some o → h'.get? b = some o) → Q (.ref (s.heap.objs.size + 1)) { s with heap := h' }) : wpAny (model prog w) A (call (.type "enumerate") [.ref l]) Q E s := by
  refine callType_new PySem.F.called_enumerate (by decide) (PySem.F.typeCall_enumerate_1 _) (PySem.F.newCall_enumerate_1 _) (fun obj => PySem.F.args_object_init_2 obj _) PySem.F.entry_enumerate_new
    (tup_begins (begins_tuple l items)) ⟨hL, ?_⟩
  have hz := Heap.size_push s.heap ({ cls := .type "tuple_iterator", data := .fields #[.ref l, .int 0 0] } : Obj)
  show _ ∧ _
  rw [hz]
  have he : IsEnum ((s.heap.push ({ cls := .type "tuple_iterator", data := .fields #[.ref l, .int 0 0] } : Obj)).push
      { cls := .type "enumerate", data := .fields #[.none, .bool false, .ref s.heap.objs.size, rawInt 0, .none, .none] }) (s.heap.objs.size + 1) s.heap.objs.size 0 .none := by
    have z := Heap.get?_push_size (s.heap.push ({ cls := .type "tuple_iterator", data := .fields #[.ref l, .int 0 0] } : Obj))
      (o := { cls := .type "enumerate", data := .fields #[.none, .bool false, .ref s.heap.objs.size, rawInt 0, .none, .none] }) rfl
    rw [hz] at z; exact z
  refine ⟨⟨_, he, rfl⟩, h _ he ⟨_, Heap.get?_push_of_some _ (Heap.get?_push_size _ rfl), rfl, rfl⟩ (by rw [Heap.size_push, hz]) fun b o x => Heap.get?_push_of_some _ (Heap.get?_push_of_some _ x)⟩
end
theorem enumT_over {prog : Program} {w : World} {A : Around} {E : Value → Shared → Prop} {s : Shared} {e it l : Addr} {i : Nat} {j : Int} {items : Array Value} {old : Value} {Q : Option Value → Shared → Prop} (hh : A.handled = none)
    (he : IsEnum s.heap e it j old) (ht : s.heap.IsTupleIter it l i) (hl : s.heap.IsTuple l items) (hx : items.size ≤ i) (k : ∀ h', Heap.ExtBut it s.heap h' → Q none { s with heap := h' }) : wpAny (model prog w) A (pyNext (.ref e)) Q E s := by
  have ty : s.TypeIs (.ref e) "enumerate" := ⟨_, he, rfl⟩
  unfold pyNext
  refine wpAny_bind (wpAny_attempt (wpAny_callSpecial?_slot (name := Str.ofString "__next__") ty PySem.F.slot_enumerate_next (wpAny_call_entry PySem.F.slot_enumerate_next ty PySem.F.entry_enumerate_next ?_ (PySem.F.args_enumerate_next_1 _))))
  show wpAny _ _ (field (.ref e) 2 >>= _) _ _ _
  refine wpAny_bind (wpAny_field he rfl (x := .ref it) rfl (wpAny_bind (wpAny_nextOf_tuple_end hh ht hl (by simp; exact hx) fun h' x eb hx' => ?_)))
  obtain ⟨o, ho, hc⟩ := hx'
  exact wpAny_bind (wpAny_isInstance (T := "StopIteration") (b := true) ⟨o, ho, hc⟩ isSubtype_stop (wpAny_pure (k _ eb)))
/-- the tuple at a as it stands at each turn, each item in a new pair -/
def IteT (K : PySem.W.Frag) (a : Addr) : It :=
  ⟨fun i H => ∃ (xs : List V) (x : V), SqT K H a xs ∧ xs[i]? = some x, fun i H v H' => ∃ T x, v = .ref T ∧ H T = none ∧ H' = upd H T (.tup [.int (i : Nat), x]) ∧ ∀ xs, SqT K H a xs → xs[i]? = some x, fun i H => ∃ xs : List V, SqT K H a xs ∧ xs.length ≤ i⟩
theorem turn_enumT {P : Program} {w : World} {K : PySem.W.Frag} {elts : List Expr} {kk : Nat} {tpos : Pos} (a e it : Addr) (hai : a ≠ it) (hea : e ≠ a) :
    Turn P w K (.Tuple elts kk tpos) (IteT K a) [e, it] e (fun i h => (∃ old, IsEnum h e it ((i : Nat) : Int) old) ∧ h.IsTupleIter it a i ∧ e ≠ it) where
  mem := by simp
  obj := fun i h st b hb => by
    obtain ⟨⟨old, he⟩, ⟨o, ho, hc, hd⟩, _⟩ := st
    have z : b = e ∨ b = it := by simpa using hb
    rcases z with z | z
    · subst z; exact ⟨_, he, fun v q => nomatch q⟩
    · subst z; exact ⟨o, ho, fun v q => by rw [hd] at q; cases q⟩
  keep := fun i h h' st k => let ⟨⟨old, he⟩, hi, hne⟩ := st; ⟨⟨old, k e (by simp) _ he⟩, hi.at fun o q => k it (by simp) o q, hne⟩
  item := by
    intro X hP hw hK hc i pins s σ H E I hf st hg
    subst hP hw hK
    obtain ⟨⟨old, he⟩, hit, hne⟩ := st
    obtain ⟨xs, x, hq, hx⟩ := hg
    obtain ⟨its, rv, p, hz⟩ := I.tuple hq
    obtain ⟨u, hu, ru⟩ := rv.get hx
    have hel : e < s.heap.objs.size := Heap.lt_size he
    have hil : it < s.heap.objs.size := by obtain ⟨_, q, _⟩ := hit; exact Heap.lt_size q
    have hin : i < its.toArray.size := by
      have := (List.getElem?_eq_some_iff.mp hu).1
      rw [List.size_toArray]; exact this
    refine wpAny_pyNext_enum_itemD (Draws.tuple (A := X.A.in1) (I.ok.hd hc) it a hai its.toArray) he ⟨hit, p⟩ hin hne (by simp [hne, hea]) fun y h' tk hy ho hst hT hsz hk => ?_
    have ey : y = u := by
      have hy : its.toArray[i]? = some y := hy
      have : its.toArray[i]? = some u := by simpa using hu
      rw [this] at hy; exact (Option.some.inj hy).symm
    subst ey
    refine ⟨_, rfl, wpAny_letOwnedTupleGo_enum (s := { s with heap := h', toks := tk + 1 }) ho fun h'' he' sb => ?_⟩
    have hT2 : h''.get? s.heap.objs.size = some { cls := .type "tuple", data := .seq #[.int i tk, y] } := (sb.2 _ (Nat.ne_of_gt hel)).trans hT
    have new : ObjOk X.prog X.w (upd H s.heap.objs.size (.tup [.int (i : Nat), x])) h'' s.heap.objs.size (.tup [.int (i : Nat), x]) :=
      ⟨by show 2 ≤ sizeLine; decide, [.int i tk, y], .cons ⟨_, rfl⟩ (.cons ru .nil), ⟨_, hT2, rfl, _, rfl⟩⟩
    have I1 : Inv X pins σ (upd H s.heap.objs.size (.tup [.int (i : Nat), x])) { s with heap := h'', toks := tk + 1 } :=
      I.turnedNew (ch := [e, it]) (fun b ob hb q => (sb.2 b (fun z => hb (by simp [z]))).trans (hk b ob (fun z => hb (by simp [z])) (fun z => hb (by simp [z])) q)) hf (Nat.le_refl _) new
    refine ⟨.ref s.heap.objs.size, _, I1, rfl, ⟨_, x, rfl, I.hok.fresh (Nat.le_refl _), rfl, fun ys hy => by rw [I.tuple_inj hy hq]; exact hx⟩, ⟨⟨y, ?_⟩, hst.1.at fun o q => (sb.2 it (Ne.symm hne)).trans q, hne⟩, fun b hb => ?_⟩
    · have e1 : ((i + 1 : Nat) : Int) = (i : Int) + 1 := by omega
      rw [e1]; exact he'
    · have z : b = e ∨ b = it := by simpa using hb
      have hb' : b < s.heap.objs.size := by
        rcases z with z | z <;> (rw [z]; assumption)
      rw [upd_ne (Nat.ne_of_lt hb')]
      exact (hf b hb).1
  done := by
    intro X hP hw hK hc i pins s σ H E I hf st hg
    subst hP hw hK
    obtain ⟨⟨old, he⟩, hit, hne⟩ := st
    obtain ⟨xs, hq, hx⟩ := hg
    obtain ⟨its, rv, p, hz⟩ := I.tuple hq
    obtain ⟨f0, f1, f2, f3, f4, f5⟩ := hf it (by simp)
    have hl := rv.length
    exact enumT_over (I.ok.hd hc) he hit p (by rw [List.size_toArray, ← hl]; exact hx) fun h' eb => ⟨rfl, I.turned (t' := s.toks) (fun b o hb q => eb b o hb q) f0 f1 f3 f4 f5⟩
  self := fun A i s Q E st h => let ⟨⟨_, he⟩, _⟩ := st; wpAny_pyIter_enum he h
def iEnumT (K : PySem.W.Frag) (ta : TA) : TI := fun σ H R => ta σ H fun vs H1 => ∃ a xs, vs = [.ref a] ∧ SqT K H1 a xs ∧ R (IteT K a) H1
theorem pi_enumT {X : Cx} {e : Expr} {ta : TA} {p pos tpos : Pos} {elts : List Expr} {kk : Nat} (hg : Gl X "enumerate") (hm : X.mg "enumerate" = none) (ha : PA X [e] ta) (hs : starEach [e] X.env = [(false, eval e X.env)]) : PI X (.Tuple elts kk tpos) (.Call (.Name "enumerate" p) [e] [] pos) (iEnumT X.K ta) := by
  refine ⟨fun pins s σ H R I h => ?_⟩
  refine Call_ (ld_blt I hg hm boot_enumerate (PyProof.Rows.callWith_type1 (thn (ha.run pos pins s σ H _ I h) fun us s1 ⟨vs, H1, I1, r1, a, xs, ex, hq, q⟩ => ?_) hs rfl))
  subst ex
  cases r1 with
  | cons r rr =>
    cases rr
    cases r
    obtain ⟨its, rv, pt, hz⟩ := I1.tuple hq
    have hla : a < s1.heap.objs.size := by obtain ⟨_, q, _⟩ := pt; exact Heap.lt_size q
    refine call_enumT pt fun h' he hit hsz hk => wpAny_pyIter_enum he ?_
    refine ⟨s1.heap.objs.size + 1, [s1.heap.objs.size + 1, s1.heap.objs.size], _, _, H1, rfl, I1.kept (t' := s1.toks) hk, turn_enumT a (s1.heap.objs.size + 1) s1.heap.objs.size (Nat.ne_of_lt hla) (Nat.ne_of_gt (Nat.lt_succ_of_lt hla)), ⟨⟨.none, he⟩, hit, Nat.succ_ne_self _⟩, fun b hb => ?_, q⟩
    have z : b = s1.heap.objs.size + 1 ∨ b = s1.heap.objs.size := by simpa using hb
    have hle : s1.heap.objs.size ≤ b := by
      rcases z with z | z
      · rw [z]; exact Nat.le_succ _
      · rw [z]; exact Nat.le_refl _
    exact I1.fpOk hle (I1.hok.fresh hle)
/-- enumerate of a list, of a tuple -/
def aEnumA (f : FA) : FA := fun rho mu => (f rho mu).bind fun as mu1 => match as with
  | [d] => (match itemsD d with
    | some xs => .ok (enumD 0 xs) mu1
    | none => .stuck)
  | _ => .stuck
section
variable {K : PySem.W.Frag} {mg : Str → Option Value} {W : WX}
theorem itd_enumT {Hh : Hp} {a : Addr} {vs : List V} {ds : List D} (h : SqT K Hh a vs) (r : RpL K mg Hh vs ds) : ItD K mg (IteT K a) (enumD 0 ds) Hh := fun i H F pi e n => by
  have hq : SqT K H a vs := Ext.sqT hid_le (e.sqT h)
  refine ⟨fun hi => ⟨vs, hq, by rw [r.length]; rw [enumD_length] at hi; exact hi⟩, fun d hd => ?_⟩
  obtain ⟨d', hd', ed⟩ := enumD_get ds 0 i d hd
  obtain ⟨v, hv, rv⟩ := r.get hd'
  refine ⟨⟨vs, v, hq, hv⟩, fun x H' ⟨T, y, ex, hT, eH, hy⟩ => ?_⟩
  have := hy vs hq
  rw [hv] at this; cases this
  subst ex eH ed
  obtain ⟨p1, p2⟩ := rp_pair hT n (Rp.int (i : Nat)) (rv.mono e)
  refine ⟨p1, ?_⟩
  rw [Nat.zero_add]
  exact p2
theorem td_enumA {ta : TA} {f : FA} (ha : TDA K mg W ta f) : TDI K mg W (fun σ H R => iEnum K ta σ H R ∨ iEnumT K ta σ H R) (aEnumA f) := by
  intro B F pi rho mu σ H R S h
  have h : ContI K mg W B F pi rho σ H R ((f rho mu).bind fun as mu1 => match as with
    | [d] => (match itemsD d with
      | some xs => .ok (enumD 0 xs) mu1
      | none => .stuck)
    | _ => .stuck) := h
  cases e : f rho mu with
  | stuck => rw [e] at h; exact h.elim
  | err x mu1 => rw [e] at h; exact .inl (ha B F pi rho mu σ H _ S (by rw [e]; exact h))
  | ok as mu1 =>
    rw [e] at h
    match as, h with
    | [d], h =>
      cases ei : itemsD d with
      | none => simp only [Rs.bind, ei] at h; exact h.elim
      | some xs =>
        simp only [Rs.bind, ei] at h
        cases hl : isLst d with
        | true =>
          refine .inl (ha B F pi rho mu σ H _ S ?_)
          rw [e]
          intro vs H1 S1 x1 r1
          cases r1 with
          | cons ra rn =>
            cases rn
            obtain ⟨p, us, rfl, q1, q2⟩ := lst_of ra ei hl
            exact ⟨_, _, rfl, Ext.sqL hid_le q1, h _ H1 S1 x1 (itd_enum q1 q2)⟩
        | false =>
          refine .inr (ha B F pi rho mu σ H _ S ?_)
          rw [e]
          intro vs H1 S1 x1 r1
          cases r1 with
          | cons ra rn =>
            cases rn
            obtain ⟨p, us, rfl, q1, q2⟩ := tup_of ra ei hl
            exact ⟨_, _, rfl, Ext.sqT hid_le q1, h _ H1 S1 x1 (itd_enumT q1 q2)⟩
    | [], h => exact h.elim
    | _ :: _ :: _, h => exact h.elim
end
theorem ji_enumA {X : Cx} {W : WX} {e : Expr} {fa : FA} {p pos : Pos} {elts : List Expr} {kk : Nat} {tpos : Pos} (hm : X.mg "enumerate" = none) (ha : JA X W [e] fa) (hg : Gl X "enumerate" := by rfl) (hs : starEach [e] X.env = [(false, eval e X.env)] := by rfl) :
    JI X W (.Tuple elts kk tpos) (.Call (.Name "enumerate" p) [e] [] pos) (aEnumA fa) := by
  obtain ⟨t, q, d⟩ := ha
  refine ⟨_, ⟨fun pins s σ H R I h => ?_⟩, td_enumA d⟩
  rcases h with h | h
  · exact (pi_enum hg hm q hs).run pins s σ H R I h
  · exact (pi_enumT hg hm q hs).run pins s σ H R I h
end DL

set_option maxHeartbeats 4000000
/-! DLp: a, *b = list. -/
namespace DL
open PySem PySem.Spec PyProof.Rows L2 ClX
section
variable {prog : Program} {w : World} {A : Around} {E : Value → Shared → Prop} {s : Shared}
theorem unp_star {l : Addr} {items : Array Value} {Q : List Value → Shared → Prop} (hl : s.heap.IsList l items) (hh : A.handled = none) (h1 : 1 ≤ items.size) (hz : items.size ≤ 16384)
    (h : ∀ (g2 : Heap) (tk : Tok), (∀ b o, s.heap.get? b = some o → g2.get? b = some o) → Q (items.toList.take 1 ++ [.ref g2.objs.size]) { s with heap := g2.push { cls := .type "list", data := .seq (items.toList.drop 1).toArray }, toks := tk }) :
    wpAny (model prog w) A (unpackItems (.ref l) 2 (some 1)) Q E s := by
  have below : l < s.heap.objs.size := by obtain ⟨o, ho, _⟩ := hl; exact Heap.lt_size ho
  have apart : l ≠ s.heap.objs.size := Nat.ne_of_lt below
  unfold unpackItems notIterableAtAll
  refine wpAny_bind (wpAny_bind (wpAny_specialOf hl.typeIs slot_list_iter.lookup (wpAny_pure ?_)))
  simp only [Bool.false_eq_true, if_false]
  refine wpAny_bind (wpAny_holding (wpAny_pyIter_list hl ?_))
  refine wpAny_bind (wpAny_holding (PySem.W.kun_draw apart 1 0 _ _ ⟨_, Heap.get?_push_size _ rfl, rfl, rfl⟩ (hl.push _) (by omega) fun g1 it1 same1 => ?_))
  have li : g1.IsList l items := (hl.push _).extBut same1.extBut apart
  rw [Nat.zero_add] at it1
  obtain ⟨oi, hoi, ri⟩ := id it1
  obtain ⟨ol, hol, rl⟩ := id li
  rw [List.drop_zero]
  have len1 : (items.toList.take 1).length = 1 := by rw [List.length_take, Array.length_toList]; omega
  rw [if_neg (by rw [len1]; omega)]
  refine wpAny_bind (wpAny_holding (PySem.W.kun_collect (s := { s with heap := g1 }) (T := "list_iterator") (.inr (.inr (.inl rfl))) (Walks.list (A := A.in1) hh s.heap.objs.size l apart items) (fun j u st => st.1.typeIs) (k := 1) h1 ⟨it1, li⟩ (Heap.lt_size hoi) (Heap.lt_size hol) (fun g2 tk keep2 => ?_) (by rw [sizeLine_eq]; omega)))
  show wpAny _ _ (if (items.toList.drop 1).length < 0 then _ else _) _ _ _
  rw [if_neg (Nat.not_lt_zero _)]
  show wpAny _ _ (newList ((items.toList.drop 1).take ((items.toList.drop 1).length - 0)) >>= fun d => pure (items.toList.take 1 ++ [d] ++ (items.toList.drop 1).drop ((items.toList.drop 1).length - 0))) _ _ _
  rw [Nat.sub_zero, List.take_length, List.drop_length]
  simp only [List.append_nil]
  have keep : ∀ b o, s.heap.get? b = some o → g2.get? b = some o := fun b o e => keep2 b o (Nat.ne_of_lt (Heap.lt_size e)) (same1.extBut b o (Nat.ne_of_lt (Heap.lt_size e)) (Heap.get?_push_of_some _ e))
  exact wpAny_bind (wpAny_newList (wpAny_pure (h g2 tk keep)) (by rw [List.length_drop, Array.length_toList, sizeLine_eq]; omega))
end
/-- a, *b = a list -/
def gStar (K : PySem.W.Frag) (i j : Nat) : TG := fun v σ H Q => ∃ a x xs, v = .ref a ∧ SqL K H a (x :: xs) ∧ xs.length < 16384 ∧ ∀ p, H p = none → Q ((σ.set i (some x)).set j (some (.ref p))) (upd H p (.lst xs))
theorem pg_star {X : Cx} {i j kk : Nat} {x y : Str} {px py ps pos : Pos} (hc : X.calm = true) (hN : X.N.Nodup) (hi : X.N[i]? = some x) (hj : X.N[j]? = some y) (hx : X.env.scope.names.lookup x = some .local) (hy : X.env.scope.names.lookup y = some .local) :
    PG X (.Tuple [.Name x px, .Starred (.Name y py) ps] kk pos) (gStar X.K i j) := by
  refine ⟨fun pins s σ H v u Q I r ⟨a, z, zs, e1, hq, hl, hw⟩ => ?_⟩
  subst e1
  cases r
  obtain ⟨its, rv, pl, hz⟩ := I.list hq
  have hlen : its.length = zs.length + 1 := rv.length.symm
  rw [assign_Tuple]
  refine wpAny_bind (wpAny_standAt ?_)
  unfold unpack
  show wpAny _ _ (do assignInOrder [assign (.Name x px) X.env, assign (.Name y py) X.env] (← holding [Value.ref a] (unpackItems (.ref a) 2 (some 1)))) _ _ _
  refine wpAny_bind (wpAny_holding (unp_star pl.isList (I.ok.hd hc) (by rw [List.size_toArray]; omega) (by rw [List.size_toArray]; omega) fun g2 tk keep => ?_))
  cases rv with
  | @cons _ u _ us ru rus =>
    have I2 : Inv X pins σ H { s with heap := g2 } := I.kept (t' := s.toks) keep
    have fr : H g2.objs.size = none := I2.hok.fresh (Nat.le_refl _)
    have I3 : Inv X pins σ (upd H g2.objs.size (.lst zs)) { s with heap := g2.push { cls := .type "list", data := .seq us.toArray }, toks := tk } :=
      I2.laid (t' := tk) (fun b o q => Heap.get?_push_of_some _ q) (Nat.le_refl _) ⟨by rw [sizeLine_eq]; omega, us, 0, rus, Heap.get?_push_size _ rfl⟩
    have q := hw g2.objs.size fr
    refine assignInOrder_cons (thn ((pg_name hN hi (.inl hx) (.inr hx)).run pins _ σ _ z u (fun σ' H' => σ' = σ.set i (some z) ∧ H' = upd H g2.objs.size (.lst zs)) I3 ru ⟨rfl, rfl⟩) fun _ s4 ⟨σ4, H4, I4, e4, e5⟩ => ?_)
    subst e4 e5
    refine assignInOrder_cons (thn ((pg_name hN hj (.inl hy) (.inr hy)).run pins s4 _ _ (.ref g2.objs.size) (.ref g2.objs.size) Q I4 rfl q) fun _ s5 q5 => ?_)
    exact assignInOrder_nil q5
def sStar (i j : Nat) (f : FE) : FS := fun rho mu => rBind (f rho mu) rho fun d mu1 => match itemsD d with
  | some (x :: xs) => if isLst d = true ∧ xs.length < 16384 then .nx ((rho.set i (.dat x)).set j (.dat (.lst xs))) mu1 else .stuck
  | _ => .stuck
theorem tds_star {K : PySem.W.Frag} {mg : Str → Option Value} {W : WX} {te : TE} {f : FE} {i j : Nat} (he : TD K mg W te f) : TDS K mg W (tAsg te (gStar K i j)) (sStar i j f) := by
  intro B F pi rho mu σ H Dn S h
  refine he.stm S h fun d mu1 v H1 S1 x1 r1 h1 => ?_
  split at h1
  · rename_i x xs ei
    split at h1
    · rename_i hl
      obtain ⟨p, us, rfl, q1, q2⟩ := lst_of r1 ei hl.1
      cases q2 with
      | cons rx rxs =>
        refine ⟨p, _, _, rfl, Ext.sqL hid_le q1, by rw [rxs.length]; exact hl.2, fun p' hp => ?_⟩
        obtain ⟨n1, n2⟩ := Ext.hidNew (F := F) (pi := pi) (o := .lst _) hp (S1.new_hid hp)
        exact h1 pi _ _ (PiExt.refl _) (((S1.ext' (Ext.new hp)).set (rx.mono n2)).set (.lst n1 (rxs.mono n2))) n2
    · exact h1.elim
  · exact h1.elim
theorem js_star {X : Cx} {W : WX} {k : Nat} (C : Ctx X k W) (i j : Nat) {kk : Nat} {x y : Str} {px py ps tp pos : Pos} {e : Expr} {f : FE} (he : JE X W e f) (hi : X.N[i]? = some x := by rfl) (hj : X.N[j]? = some y := by rfl) (hx : X.env.scope.names.lookup x = some .local := by rfl) (hy : X.env.scope.names.lookup y = some .local := by rfl)
    (hs : swapsWithSole [.Tuple [.Name x px, .Starred (.Name y py) ps] kk tp] e pos.line X.env = pure false := by rfl) (hw : swappedStores [.Tuple [.Name x px, .Starred (.Name y py) ps] kk tp] e X.env = pure none := by rfl)
    (h1 : (assignEach [.Tuple [.Name x px, .Starred (.Name y py) ps] kk tp] X.env).map (·.2) = [assign (.Tuple [.Name x px, .Starred (.Name y py) ps] kk tp) X.env] := by rfl) : JS X W (.Assign [.Tuple [.Name x px, .Starred (.Name y py) ps] kk tp] e pos) (sStar i j f) :=
  let ⟨_, p, d⟩ := he; ⟨_, ps_asg p (pg_star C.calm C.nd hi hj hx hy) hs hw h1, tds_star d⟩
end DL

set_option maxHeartbeats 4000000
/-! DLq: the head's facts by any Bools; the law's end. -/
namespace DL
open PySem PySem.Spec PyProof.Rows L2 ClX

/-! ### facts of the head: Bools of the written part, and defs at any address -/
abbrev FaX : Type := PySem.W.Frag → Bool
def obX (fa : List FaX) (fn : List He5.DefA) (K : PySem.W.Frag) : He.AlD := ((fa.all fun f => f K) && fn.all fun d => d.ok K, fn.map fun d => He5.fnA K (d.at_ K))
def SaysX (fa : List FaX) (fn : List He5.DefA) (K : PySem.W.Frag) : Prop := obX fa fn K = He5.valA fn
def obXG (n : Nat) (fa : List FaX) (fn : List He5.DefA) (g : Addr → Option Obj) : He.AlD := obX fa fn (He.frG g (He5.asA g n))
def hookX (n : Nat) (fa : List FaX) (fn : List He5.DefA) : PySem.W.Hook where
  α := He.AlD
  obs := fun s => obXG n fa fn s.heap.get?
  val := fun _ => He5.valA fn
  says := fun _ h => ∃ K : PySem.W.Frag, K.In h ∧ SaysX fa fn K
  of := fun _ _ e => ⟨_, He.frG_in, e⟩
  keeps := fun _ _ _ ⟨K, hK, c⟩ k => ⟨K, PySem.W.Frag.In.keeps hK k, c⟩
theorem obXG_eq {n : Nat} {fa : List FaX} {fn : List He5.DefA} {g : Addr → Option Obj} {s : Shared} (h : ∀ a, g a = s.heap.get? a) : obXG n fa fn g = (hookX n fa fn).obs s := by
  have e : g = s.heap.get? := funext h
  rw [e] <;> rfl
section
variable {fa : List FaX} {fn : List He5.DefA} {K : PySem.W.Frag}
theorem SaysX.both (c : SaysX fa fn K) : (fa.all fun f => f K) = true ∧ (fn.all fun d => d.ok K) = true := Bool.and_eq_true_iff.mp (congrArg (fun z : He.AlD => z.1) c)
theorem SaysX.fact (c : SaysX fa fn K) (i : Nat) {f : FaX} (h : fa[i]? = some f := by rfl) : f K = true := List.all_eq_true.mp c.both.1 f (List.mem_of_getElem? h)
theorem SaysX.def_ (c : SaysX fa fn K) (i : Nat) {d : He5.DefA} (h : fn[i]? = some d := by rfl) : ∃ fd, L2.FunD K d.name d.qual d.params d.body d.scope (d.dvs K) (d.kws K) (d.at_ K) fd := by
  have q : (fn.map fun d => He5.fnA K (d.at_ K))[i]? = (fn.map He5.DefA.val)[i]? := congrArg (fun l => l[i]?) (congrArg (fun z : He.AlD => z.2) c)
  rw [List.getElem?_map, List.getElem?_map, h] at q
  exact He5.DefA.funD (Option.some.inj q) (List.all_eq_true.mp c.both.2 d (List.mem_of_getElem? h))
end
/-! the facts -/
def xGlo (x : Str) : FaX := fun K => (He.Fa.glo x).ok K
def xFree (x : Str) : FaX := fun K => (He.Fa.free x).ok K
def xInt (x : Str) (i : Int) : FaX := fun K => (He.Fa.int x i).ok K
def xStr (x z : Str) : FaX := fun K => (He.Fa.str x z).ok K
def xCls (x : Str) : FaX := fun K => (He.Fa.cls x).ok K
def xNoat (x f : Str) : FaX := fun K => (He.Fa.noat x f).ok K
def xMeth (x m : Str) : FaX := fun K => (He.Fa.meth x m).ok K
def xMkr (x : Str) : FaX := fun K => (He.Fa.mkr x).ok K
/-- the getter of the property f of the class x -/
def propG (x f : Str) (K : PySem.W.Frag) : Addr := match PySem.W.recIn K (He.ma K (He.ga K x) f) "property" with
  | some (.ref g :: _) => g
  | _ => 0
def xProp (x f : Str) : FaX := fun K => decide (PySem.W.findIn K (.ref (He.ga K x)) f = some (some (.ref (He.ma K (He.ga K x) f)))) && (decide (PySem.W.specialIn K (.ref (He.ma K (He.ga K x) f)) "__get__" = some (some (.builtin "property.__get__"))) &&
  (decide (PySem.W.takesIn K (.ref (He.ma K (He.ga K x) f)) = some true) && (match PySem.W.recIn K (He.ma K (He.ga K x) f) "property" with
    | some (.ref _ :: _) => true
    | _ => false)))
theorem xProp_ok {x f : Str} {K : PySem.W.Frag} (h : xProp x f K = true) : PropOf K (He.ga K x) f (He.ma K (He.ga K x) f) (propG x f K) := by
  unfold xProp at h
  obtain ⟨h1, h⟩ := Bool.and_eq_true_iff.mp h
  obtain ⟨h2, h⟩ := Bool.and_eq_true_iff.mp h
  obtain ⟨h3, h4⟩ := Bool.and_eq_true_iff.mp h
  refine ⟨of_decide_eq_true h1, of_decide_eq_true h2, of_decide_eq_true h3, ?_⟩
  unfold propG
  split at h4
  · rename_i g r e; exact ⟨r, by rw [e]⟩
  · cases h4
def xReads (x : Str) : FaX := fun K => PySem.W.readsIn K (He.ga K x) (.type "type") && decide (PySem.W.specialIn K (.ref (He.ga K x)) "__getattribute__" = some (some (.builtin "type.__getattribute__")))
theorem xReads_ok {x : Str} {K : PySem.W.Frag} (h : xReads x K = true) : CRead K (He.ga K x) (.type "type") :=
  let ⟨h1, h2⟩ := Bool.and_eq_true_iff.mp h; ⟨h1, of_decide_eq_true h2⟩
def xCInt (x f : Str) (i : Int) : FaX := fun K => match PySem.W.findCls K (.ref (He.ga K x)) (.type "type") f with
  | some (.val (.int j _)) => decide (j = i)
  | _ => false
theorem xCInt_ok {x f : Str} {i : Int} {K : PySem.W.Frag} (h : xCInt x f i K = true) : ∃ t, CVal K (He.ga K x) (.type "type") f (.int i) (.int i t) := by
  unfold xCInt at h
  split at h
  · rename_i j t e
    have z : j = i := of_decide_eq_true h
    subst z
    exact ⟨t, e, ⟨t, rfl⟩⟩
  · cases h
def xCm (x m : Str) : FaX := fun K => He5.wrapB K (He.ga K x) "classmethod" "classmethod.__get__" m && PySem.W.fnIn K (He5.wf K (He.ga K x) "classmethod" m)
theorem xCm_ok {x m : Str} {K : PySem.W.Frag} (h : xCm x m K = true) : CMet K (He.ga K x) (.type "type") m (He.ma K (He.ga K x) m) (He5.wf K (He.ga K x) "classmethod" m) :=
  let ⟨h1, h2⟩ := Bool.and_eq_true_iff.mp h; He5.cmet_of h1 h2
def xMet (x m : Str) : FaX := fun K => decide (PySem.W.findIn K (.ref (He.ga K x)) m = some (some (.ref (He.ma K (He.ga K x) m)))) && PySem.W.isFn K (.ref (He.ma K (He.ga K x) m))
theorem xMet_ok {x m : Str} {K : PySem.W.Frag} (h : xMet x m K = true) : MetAt K (He.ga K x) m (He.ma K (He.ga K x) m) :=
  let ⟨h1, h2⟩ := Bool.and_eq_true_iff.mp h; ⟨of_decide_eq_true h1, h2⟩
def xObj (x : Str) : FaX := fun K => decide (PySem.W.mroIn K (He.ga K x) (.type "object") = some true)
def xNe (x : Str) : FaX := fun K => decide (PySem.W.findIn K (.ref (He.ga K x)) "__ne__" = some (some (.builtin "object.__ne__")))
def xIsi (a c : Str) (b : Bool) : FaX := fun K => decide (PySem.W.findIn K (.ref (He.ga K a)) "__class__" = some (some (.builtin "object.__class__"))) && (decide (PySem.W.specialIn K (.builtin "object.__class__") "__get__" = some (some (.builtin "getset_descriptor.__get__"))) &&
  (decide (PySem.W.takesIn K (.builtin "object.__class__") = some true) && (decide (PySem.W.mroIn K (He.ga K a) (.type "object") = some true) && decide (PySem.W.kitOne K (.ref (He.ga K a)) (.ref (He.ga K c)) = some b))))
theorem xIsi_ok {a c : Str} {b : Bool} {K : PySem.W.Frag} {mg : Str → Option Value} (ha : mg a = some (.ref (He.ga K a))) (hc : mg c = some (.ref (He.ga K c))) (cl : Cls K (He.ga K a)) (h : xIsi a c b K = true) : IsiOk K mg a c b := by
  intro A C e1 e2
  rw [ha] at e1; rw [hc] at e2
  cases e1; cases e2
  unfold xIsi at h
  obtain ⟨h1, h⟩ := Bool.and_eq_true_iff.mp h
  obtain ⟨h2, h⟩ := Bool.and_eq_true_iff.mp h
  obtain ⟨h3, h⟩ := Bool.and_eq_true_iff.mp h
  obtain ⟨h4, h5⟩ := Bool.and_eq_true_iff.mp h
  exact ⟨cl, of_decide_eq_true h1, of_decide_eq_true h2, of_decide_eq_true h3, of_decide_eq_true h4, of_decide_eq_true h5⟩

/-! ### the law's end -/
/-- the script as data -/
theorem sat_script {K : PySem.W.Frag} {mg : Str → Option Value} {H : Hp} {a : Addr} {ns : List Int} (h : SqL K H a (ns.map V.int)) : Sat K mg H (fun _ => false) [] [.dat (.fro (ns.map .int))] [] ([V.ref a].map some) H := by
  have hh : hid (fun _ => false) [] H = H := by funext b; unfold hid hidB; simp
  refine ⟨rfl, rfl, (fun i j a h => by simp at h), (fun k a d h => by simp at h), (fun k h => by simp at h), (fun a h => by cases h), Ext.refl _, fun i d e => ?_, fun i k e => ?_⟩
  · cases i with
    | zero =>
      simp at e; subst e
      exact ⟨.ref a, rfl, by rw [hh]; exact .fro h (ints_rpl ns)⟩
    | succ i => simp at e
  · cases i with
    | zero => simp at e
    | succ i => simp at e
/-- from the law's mirror to the row's call -/
theorem law_g {P : Program} {w : World} {K : PySem.W.Frag} {mg mb : Str → Option Value} {k : Nat} {fa a : Addr} {fd : FuncData} {x : Str} {m : Mir} {s1 : Shared} {vs : List Value} {ns : List Int}
    (KX : K.In s1.heap) (hns : s1.heap.Ns mainGlobals mg) (hb : s1.heap.Ns builtinsNs mb) (hbb : ∀ x : Str, x ≠ "__name__" → mb x = bootBuiltins x) (hlim : s1.heap.NoLimit) (hg : s1.gens = #[])
    (ha : s1.heap.get? a = some { cls := .type "list", data := .seq vs.toArray }) (hi : IntsAre vs ns) (hl : ns.length ≤ sizeLine) (hr : RoomG k callerA)
    (G : ∀ base : Heap, K.In base → base.Ns mainGlobals mg → FnG P w K mg base k fa fd [x] m) (hbind : ∀ (s : Shared) (u : Value), BindsTo s fd ⟨[u], []⟩ [(x, u)])
    (hm : ∃ mu, m [.dat (.fro (ns.map .int))] [] = .ok (.bl true) mu) :
    codeAny (model P w) callerA (.call (.ref fa) ⟨[.ref a], []⟩) (fun r s' => r = .ok (.ret (.bool true)) ∧ OldK s1.heap s'.heap ∧ s'.os = s1.os ∧ AllBare s'.gens) s1 := by
  have rv := vals_ints hi
  have lenV := hi.length
  have promise : ∀ H : Hp, SqL K H a (ns.map V.int) → SpM K mg m [.ref a] H (fun v _ => v = .bl true) fun _ _ _ => False := fun H hS => by
    obtain ⟨mu, e⟩ := hm
    refine ⟨H, fun _ => false, [], _, [], sat_script hS, ?_⟩
    rw [e]
    intro v H' _ _ r
    cases r; rfl
  -- H: nothing is known, or the script alone
  have core : ∀ H : Hp, (∀ b u, H b = some u → b = a ∧ K.lookup a = none ∧ ∃ o xs, u = .frz o (.lst xs)) → SqL K H a (ns.map V.int) → HOk P w H s1.heap →
      codeAny (model P w) callerA (.call (.ref fa) ⟨[.ref a], []⟩) (fun r s' => r = .ok (.ret (.bool true)) ∧ OldK s1.heap s'.heap ∧ s'.os = s1.os ∧ AllBare s'.gens) s1 := by
    intro H only hS hok
    have out : ∀ {b : Addr} {o : Obj}, s1.heap.get? b = some o → (b = a → K.lookup a ≠ none ∨ ∃ es ep, o.data = .dict es ep) → H b = none := fun {b o} e h => by
      cases q : H b with
      | none => rfl
      | some u =>
        obtain ⟨e1, e2, _⟩ := only b u q
        rcases h e1 with z | ⟨es, ep, z⟩
        · exact absurd e2 z
        · subst e1
          rw [ha] at e; cases e; cases z
    have ns_of : ∀ {b : Addr} {m' : Str → Option Value}, s1.heap.Ns b m' → (hidT s1.heap H).Ns b m' := fun {b m'} ⟨o, es, ep, e, d, r⟩ => ⟨o, es, ep, hidT_get e (out e fun _ => .inr ⟨es, ep, d⟩), d, r⟩
    have KB : K.In (hidT s1.heap H) := fun b o e => hidT_get (KX b o e) (out (KX b o e) fun z => .inl (by rw [← z, e]; simp))
    have M : Mod K mg (hidT s1.heap H) := ⟨KB, ns_of hns, ⟨mb, ns_of hb, hbb⟩, let ⟨mc, h1, h2⟩ := hlim; ⟨mc, ns_of h1, h2⟩⟩
    have e0 : Env0 P w K mg (hidT s1.heap H) callerA [] s1 H := ⟨rfl, M, fun b o e => of_hidT e, Nat.le_of_eq (hidT_size _ _), trivial, fun b hb => absurd (show b ∈ ([] : List Addr) from hb) (by simp), hok, .of_eq hg⟩
    refine codeAny_mono ((G _ KB (ns_of hns)).run callerA [] s1 H ⟨[.ref a], []⟩ [.ref a] [.ref a] _ _ hr e0 (hbind s1 (.ref a)) (.cons rfl .nil) rfl (promise H hS)) fun r s' h => ?_
    cases r with
    | error e =>
      obtain ⟨_, _, _, _, _, _, _, _, _, _, _, _, z⟩ := h
      exact z.elim
    | ok fl =>
      cases fl with
      | next => exact False.elim h
      | brk => exact False.elim h
      | cont => exact False.elim h
      | ret u =>
        obtain ⟨v, H', os, bare, un, hok', r', q⟩ := h
        have q' : v = .bl true := q
        subst q'
        obtain rfl : u = Value.bool true := r'
        refine ⟨rfl, OldK.of_keep fun b o e => ?_, os, bare⟩
        cases q : H b with
        | none => exact un.keep b o e q (fun z => absurd (show b ∈ ([] : List Addr) from z) (by simp)) (by simp)
        | some u =>
          obtain ⟨_, _, ob, xs, z⟩ := only b u q
          subst z
          obtain ⟨e1, _⟩ := hok b _ q
          obtain ⟨e2, _⟩ := hok' b _ (un.frzs b ob _ q)
          rw [e] at e1; cases e1
          exact e2
  cases hk : K.lookup a with
  | some o =>
    have e := KX a o hk
    rw [ha] at e
    cases e
    exact core (fun _ => none) (fun b u z => by cases z) (.inr ⟨_, vs.toArray, _, hk, rfl, rfl, rfl, by rw [List.size_toArray, lenV]; exact hl, by simpa using rv⟩) (fun b u z => by have z' : (none : Option HO) = some u := z; cases z')
  | none =>
    have at_ : ∀ b u, (fun b => if b = a then some (HO.frz { cls := .type "list", data := .seq vs.toArray } (.lst (ns.map V.int))) else none) b = some u → b = a ∧ u = .frz { cls := .type "list", data := .seq vs.toArray } (.lst (ns.map V.int)) := fun b u z => by
      by_cases hb : b = a
      · have z' := (if_pos hb).symm.trans z
        cases z'
        exact ⟨hb, rfl⟩
      · have z' := (if_neg hb).symm.trans z
        cases z'
    refine core (fun b => if b = a then some (.frz { cls := .type "list", data := .seq vs.toArray } (.lst (ns.map V.int))) else none) (fun b u z => ?_) (.inl (.inr ⟨{ cls := .type "list", data := .seq vs.toArray }, if_pos rfl⟩)) fun b u z => ?_
    · obtain ⟨e1, e2⟩ := at_ b u z
      exact ⟨e1, hk, _, _, e2⟩
    · obtain ⟨e1, e2⟩ := at_ b u z
      subst e1 e2
      exact ⟨ha, by rw [List.length_map]; exact hl, vs, _, rv, ha⟩
/-- the law, from its mirror -/
theorem walk_g {l : PySem.W.OpenLaw} {n k : Nat} {q : Program} {loose : List Str} {XP : (Str → Option Value) → Heap → Prop} {YP : World → Heap → Prop} {d : DefRec} {x : Str} {m : Mir}
    (hn : l.most = some n) (hn2 : n ≤ sizeLine) (hdf : d.params.defaults = []) (hr : RoomG k callerA)
    (F : ∀ (w : World) (mg : Str → Option Value) (fa : Addr) (h : Heap), YP w h → h.Ns mainGlobals mg → mg d.name = some (.ref fa) →
      ∃ (K : PySem.W.Frag) (fd : FuncData), K.In h ∧ (∀ (s : Shared) (u : Value), BindsTo s fd ⟨[u], []⟩ [(x, u)]) ∧ ∀ base : Heap, K.In base → base.Ns mainGlobals mg → FnG l.prog w K mg base k fa fd [x] m)
    (hm : ∀ ns : List Int, ns.length ≤ n → ∃ mu, m [.dat (.fro (ns.map .int))] [] = .ok (.bl true) mu) :
    PySem.W.WalkO q loose XP YP l.row.toRowW d [] (fun f vs => PySem.call f vs) := by
  refine Att.attach_call hn hdf fun w s0 s1 mg mb fa o pm cd doc a vs ns G Y ho hd hcd hmg hobj hints hlen hg => ?_
  obtain ⟨K, fd, KX, hb, hF⟩ := F w mg fa _ Y G.T.g hmg
  exact law_g KX G.T.g G.T.b G.T.builtins G.T.nolimit hg hobj hints (Nat.le_trans hlen hn2) hr hF hb (hm ns hlen)
end DL

set_option maxHeartbeats 4000000
/-! DLr: defs that return a new list; the length of an own list. -/
namespace DL
open PySem PySem.Spec PyProof.Rows L2 ClX
section
variable {K : PySem.W.Frag} {mg : Str → Option Value} {W : WX} {B : Hp} {F : Addr → Bool} {pi pi1 pi' : List (Option Addr)} {rho rho' : List Sl} {mu mu' : List D} {σ σ' : L2.St} {H H' H1 : Hp} {p : Addr}
/-- len(own) -/
def eOwnLen (i : Nat) : FE := fun rho mu => match listAt rho mu i with
  | some (_, xs) => .ok (.int xs.length) mu
  | none => .stuck
theorem td_ownLen {i : Nat} : TD K mg W (tCB (rLen K) (tCons (tVar i) tNil)) (eOwnLen i) := by
  intro B F pi rho mu σ H Q S h
  unfold eOwnLen at h
  cases el : listAt rho mu i with
  | none => rw [el] at h; exact h.elim
  | some kx =>
    obtain ⟨k, xs⟩ := kx
    rw [el] at h
    obtain ⟨a, vs, h1, h2, h3, r⟩ := S.list_at el
    refine ⟨_, h2, _, vs.length, rfl, .inl ⟨vs, .inl (.inl h3), rfl⟩, ?_⟩
    rw [r.length]
    exact h _ H S (Ext.refl _) (.int _)
variable (K mg W) in
def ContZ (B : Hp) (F : Addr → Bool) (pi : List (Option Addr)) (H : Hp) (Dn : Ends) : Rs D → Prop
  | .ok d mu => ∀ pi' rho' σ' p H', PiExt pi pi' → Sat K mg B F (pi' ++ [some p]) rho' (mu ++ [d]) σ' H' → Ext (hid F pi H) (hid F (pi' ++ [some p]) H') → Dn.rt (.ref p) H'
  | _ => False
variable (K mg W) in
/-- a block that ends by the return of a new object -/
def TDZ (t : TS) (z : FE) : Prop := ∀ (B : Hp) (F : Addr → Bool) (pi : List (Option Addr)) (rho : List Sl) (mu : List D) (σ : L2.St) (H : Hp) (Dn : Ends),
  Sat K mg B F pi rho mu σ H → ContZ K mg B F pi H Dn (z rho mu) → t Dn σ H
def zSeq (f : FS) (z : FE) : FE := fun rho mu => match f rho mu with
  | .nx r m => z r m
  | _ => .stuck
theorem tdz_ret {te : TE} {f : FE} (he : TDN K mg W te f) : TDZ K mg (tRet te) f := by
  intro B F pi rho mu σ H Dn S h
  refine he B F pi rho mu σ H _ S ?_
  cases e : f rho mu with
  | ok d m => rw [e] at h; exact fun p H' S' x => h pi rho σ p H' (PiExt.refl _) S' x
  | err _ _ => rw [e] at h; exact h.elim
  | stuck => rw [e] at h; exact h.elim
theorem tdz_seq {t u : TS} {f : FS} {z : FE} (ht : TDS K mg W t f) (hu : TDZ K mg u z) : TDZ K mg (tSeq t u) (zSeq f z) := by
  intro B F pi rho mu σ H Dn S h
  show t { Dn with nx := u Dn } σ H
  refine ht B F pi rho mu σ H _ S ?_
  unfold zSeq at h
  cases e : f rho mu with
  | nx r m =>
    rw [e] at h
    intro pi' σ' H' q S' x
    refine hu B F pi' r m σ' H' Dn S' ?_
    have h : ContZ K mg B F pi H Dn (z r m) := h
    cases ez : z r m with
    | ok d m2 => rw [ez] at h; exact fun pi2 rho2 σ2 p H2 q2 S2 x2 => h pi2 rho2 σ2 p H2 (q.trans q2) S2 (x.trans x2)
    | err _ _ => rw [ez] at h; exact h
    | stuck => rw [ez] at h; exact h
  | rt d m => rw [e] at h; exact h.elim
  | bk r m => rw [e] at h; exact h.elim
  | ct r m => rw [e] at h; exact h.elim
  | er x r m => rw [e] at h; exact h.elim
  | stuck => rw [e] at h; exact h.elim
/-- the caller's state again, a new object beside it -/
theorem Sat.backN {d : D} (S : Sat K mg B F pi rho mu σ H) (S' : Sat K mg B F (pi' ++ [some p]) rho' (mu' ++ [d]) σ' H') (q : PiExt pi pi') (x : Ext (hid F pi H) (hid F (pi' ++ [some p]) H')) (hk : keepsAll (mu'.take mu.length) = true) :
    Sat K mg B F (pi ++ [some p]) rho (mu'.take mu.length ++ [d]) σ H' ∧ Ext (hid F pi H) (hid F (pi ++ [some p]) H') := by
  have hl' : pi'.length = mu'.length := by have := S'.len; simp at this; exact this
  have hl : mu.length ≤ mu'.length := by rw [← S.len, ← hl']; exact q.len
  have tk : (mu' ++ [d]).take mu.length = mu'.take mu.length := by rw [List.take_append_of_le_length hl]
  obtain ⟨S1, x1, x2⟩ := S.back S' (q.trans (PiExt.snoc pi' (some p))) x (by rw [tk]; exact hk)
  rw [tk] at S1
  have pin : (pi' ++ [some p])[pi'.length]? = some (some p) := by simp
  obtain ⟨b1, b2, o, b3, b4⟩ := S'.own pi'.length p d pin (by rw [hl']; simp)
  have np : ∀ k : Nat, pi[k]? ≠ some (some p) := fun k e => by
    have lt := (List.getElem?_eq_some_iff.mp e).1
    have lt' : k < pi'.length := Nat.lt_of_lt_of_le lt q.len
    rcases q.at_ k p e with z | z
    · have := S'.inj k pi'.length p (by rw [List.getElem?_append_left lt']; exact z) pin
      omega
    · have fz := S'.frz k (by rw [List.getElem?_append_left lt']; exact z)
      have lm : k < mu.length := by rw [← S.len]; exact lt
      have z2 : (mu'.take mu.length)[k]? = some .non := by
        rw [List.getElem?_take_of_lt lm]
        rw [List.getElem?_append_left (by omega)] at fz
        exact fz
      have z3 := List.all_eq_true.mp hk D.non (List.mem_of_getElem? z2)
      cases z3
  -- hidden here: the caller's and p
  have hh : ∀ a, hidB F (pi ++ [some p]) a = (hidB F pi a || decide (a = p)) := fun a => by
    unfold hidB
    have e : (pi ++ [some p]).contains (some a) = (pi.contains (some a) || decide (a = p)) := by
      rw [Bool.eq_iff_iff, Bool.or_eq_true, List.contains_iff_mem, List.contains_iff_mem, decide_eq_true_eq, List.mem_append, List.mem_singleton, Option.some.injEq]
    rw [e, Bool.or_assoc]
  have sub : ∀ a, hidB F (pi ++ [some p]) a = true → hidB F (pi' ++ [some p]) a = true := fun a h => by
    rw [hh] at h
    unfold hidB
    rcases Bool.or_eq_true_iff.mp h with h | h
    · unfold hidB at h
      rcases Bool.or_eq_true_iff.mp h with h | h
      · rw [h]; rfl
      · obtain ⟨k, hk'⟩ := mem_pi.mp h
        have lt := (List.getElem?_eq_some_iff.mp hk').1
        rcases q.at_ k a hk' with z | z
        · rw [mem_pi.mpr ⟨k, by rw [List.getElem?_append_left (Nat.lt_of_lt_of_le lt q.len)]; exact z⟩]; simp
        · have fz := S'.frz k (by rw [List.getElem?_append_left (Nat.lt_of_lt_of_le lt q.len)]; exact z)
          have lm : k < mu.length := by rw [← S.len]; exact lt
          have z2 : (mu'.take mu.length)[k]? = some .non := by
            rw [List.getElem?_take_of_lt lm]
            rw [List.getElem?_append_left (by omega)] at fz
            exact fz
          have z3 := List.all_eq_true.mp hk D.non (List.mem_of_getElem? z2)
          cases z3
    · have : a = p := of_decide_eq_true h
      subst this
      rw [mem_pi.mpr ⟨pi'.length, pin⟩]; simp
  have y : Ext (hid F (pi' ++ [some p]) H') (hid F (pi ++ [some p]) H') := fun a u e => by
    obtain ⟨h1, h2⟩ := hid_some e
    have h3 : hidB F (pi ++ [some p]) a = false := by
      cases z : hidB F (pi ++ [some p]) a with
      | false => rfl
      | true => rw [sub a z] at h1; cases h1
    rw [hid_of h3]; exact h2
  have ex := x.trans y
  have l2 : (mu'.take mu.length).length = pi.length := by rw [List.length_take]; have := S.len; omega
  have sp : ∀ (i : Nat) (a : Addr), (pi ++ [some p])[i]? = some (some a) → pi[i]? = some (some a) ∨ (i = pi.length ∧ a = p) := fun i a e => by
    by_cases hi : i < pi.length
    · rw [List.getElem?_append_left hi] at e; exact .inl e
    · rw [List.getElem?_append_right (by omega)] at e
      have hz : i - pi.length = 0 := by
        have := (List.getElem?_eq_some_iff.mp e).1
        simp at this; omega
      rw [hz] at e
      simp at e
      exact .inr ⟨by omega, e.symm⟩
  refine ⟨⟨by simp [l2], S.slen, fun i j a h1 h2 => ?_, fun k a d' h1 h2 => ?_, fun k h => ?_, S.forn, S'.ext, fun i d' h => ?_, fun i k h => ?_⟩, ex⟩
  · rcases sp i a h1 with q1 | ⟨q1, z1⟩ <;> rcases sp j a h2 with q2 | ⟨q2, z2⟩
    · exact S.inj i j a q1 q2
    · subst z2; exact absurd q1 (np i)
    · subst z1; exact absurd q2 (np j)
    · omega
  · rcases sp k a h1 with z | ⟨z1, z2⟩
    · have lt := (List.getElem?_eq_some_iff.mp z).1
      have lm : k < mu.length := by rw [← S.len]; exact lt
      rw [List.getElem?_append_left (by rw [l2]; exact lt), List.getElem?_take_of_lt lm] at h2
      have at' : (pi' ++ [some p])[k]? = some (some a) := by
        rw [List.getElem?_append_left (Nat.lt_of_lt_of_le lt q.len)]
        rcases q.at_ k a z with w | w
        · exact w
        · have fz := S'.frz k (by rw [List.getElem?_append_left (Nat.lt_of_lt_of_le lt q.len)]; exact w)
          have z2 : (mu'.take mu.length)[k]? = some .non := by
            rw [List.getElem?_take_of_lt lm]
            rw [List.getElem?_append_left (by omega)] at fz
            exact fz
          have z3 := List.all_eq_true.mp hk D.non (List.mem_of_getElem? z2)
          cases z3
      obtain ⟨c1, c2, u, c3, c4⟩ := S'.own k a d' at' (by rw [List.getElem?_append_left (by omega)]; exact h2)
      exact ⟨c1, c2, u, c3, c4.mono y⟩
    · subst z1 z2
      rw [List.getElem?_append_right (by rw [l2]; exact Nat.le_refl _), l2, Nat.sub_self] at h2
      simp at h2; subst h2
      exact ⟨b1, b2, o, b3, b4.mono y⟩
  · by_cases hk' : k < pi.length
    · rw [List.getElem?_append_left hk'] at h
      rw [List.getElem?_append_left (by rw [l2]; exact hk')]
      exact S1.frz k h
    · rw [List.getElem?_append_right (by omega)] at h
      have := (List.getElem?_eq_some_iff.mp h).1
      have hz : k - pi.length = 0 := by simp at this; omega
      rw [hz] at h; simp at h
  · obtain ⟨v, h1, h2⟩ := S.dat i d' h
    exact ⟨v, h1, h2.mono ex⟩
  · obtain ⟨a, h1, h2⟩ := S.ref i k h
    exact ⟨a, by rw [List.getElem?_append_left (List.getElem?_eq_some_iff.mp h1).1]; exact h1, h2⟩
end
/-- the mirror of such a body; its parameters are data -/
def mirZ (N : Nat) (z : FE) : Mir := fun rho mu => match z (rho ++ List.replicate (N - rho.length) .no) mu with
  | .ok d m => if keepsAll (m.take mu.length) then .ok d (m.take mu.length) else .stuck
  | _ => .stuck
/-- a def of one heap of data parameters that returns a new object -/
structure FnN (P : Program) (w : World) (K : PySem.W.Frag) (mg : Str → Option Value) (base : Heap) (k : Nat) (f : Addr) (fd : FuncData) (ps : List Str) (m : Mir) : Prop where
  run : ∀ (A : Around) (outer : List Env) (s : Shared) (H : Hp) (args : Args) (us : List Value) (vs : List V) (Q : VK) (E : XK) (B : Hp) (F : Addr → Bool) (pi : List (Option Addr)) (rho : List Sl) (mu : List D), RoomG k A → Env0 P w K mg base A outer s H → BindsTo s fd args (ps.zip us) → Vals vs us → vs.length = ps.length →
    Sat K mg B F pi rho mu (vs.map some) H → ContN K mg WF B F pi rho (vs.map some) H Q (m rho mu) → codeAny (model P w) A (.call (.ref f) args) (CR (L2.CX P w) outer P w H s Q E) s
def JZ (X : Cx) (sts : List Stmt) (z : FE) : Prop := ∃ t, PSs X sts t ∧ TDZ X.K X.mg t z
section
variable {X : Cx} {W : WX} {e : Expr} {st : Stmt} {sts : List Stmt} {f : FE} {s : FS} {z : FE} {pos : Pos}
theorem jz_ret (h : JN X W e f) : JZ X [.Return (some e) pos] f := let ⟨_, p, d⟩ := h; ⟨_, pss_one (ps_ret p), tdz_ret d⟩
theorem jz_cons (h : JS X W st s) (r : JZ X sts z) : JZ X (st :: sts) (zSeq s z) := let ⟨_, p, d⟩ := h; let ⟨_, q, d'⟩ := r; ⟨_, pss_cons p q, tdz_seq d d'⟩
end
theorem fn_z {P : Program} {w : World} {K : PySem.W.Frag} {mg : Str → Option Value} {base : Heap} {k : Nat} {f : Addr} {fd : FuncData} {x qual : Str} {params : Arguments} {body : List Stmt} {scope : Scope} {dvs : List V} {kws : List (Str × V)} {N ps : List Str} {z : FE}
    (F0 : FunD K x qual params body scope dvs kws f fd) (S : FnScope N ps scope)
    (hbody : ∀ (cdv : Value) (A : Around) (outer : List Env) (s : Shared) (H : Hp) (E : XK), Ctx (cxOf (L2.CX P w) P w K mg base N qual scope f cdv A outer s H E) k (WB E) → Own (cxOf (L2.CX P w) P w K mg base N qual scope f cdv A outer s H E) →
      JZ (cxOf (L2.CX P w) P w K mg base N qual scope f cdv A outer s H E) body z) : FnN P w K mg base (k + 1) f fd ps (mirZ N.length z) := by
  obtain ⟨oc, od, dV, kV, doc, pm, an, cdv, ct, osl, rfl, lk, hcd, _, _⟩ := F0.ex
  refine ⟨fun A outer s H args us vs Q E B F pi rho mu hr e0 hb r hl S0 hz => ?_⟩
  have hN : vs.length ≤ N.length := by
    have := congrArg List.length S.pre
    rw [List.length_take] at this
    omega
  refine (StX.run_bnd lk hcd S hr.rm e0 (E := E) (Q := Q) (G := fun xs H2 => xs = vs ∧ H2 = H) (fun A' Ex Q' q => hb _ _ _ _ (q s H vs us e0 Un.refl rfl (fun _ _ h => h) r hl ⟨rfl, rfl⟩)) fun s2 H2 xs ⟨ex, eH⟩ hr' => ?_)
  subst ex eH
  have C : Ctx (cxOf (L2.CX P w) P w K mg base N qual scope f cdv A outer s2 H2 E) k (WB E) := ⟨rfl, S.nd, ⟨hr', hr.gd⟩, takes_of rfl rfl rfl rfl⟩
  obtain ⟨t, ht, hd⟩ := hbody cdv A outer s2 H2 E C (passes_of (X := cxOf (L2.CX P w) P w K mg base N qual scope f cdv A outer s2 H2 E) rfl)
  refine ⟨t, ht, hd B F pi _ mu _ H2 _ (start_sat S0 hN) ?_⟩
  unfold mirZ at hz
  cases e : z (rho ++ List.replicate (N.length - rho.length) .no) mu with
  | ok d m =>
    rw [e] at hz
    simp only at hz
    split at hz
    · rename_i hk
      intro pi' rho' σ' p H' q S' x
      obtain ⟨z1, z2⟩ := S0.backN S' q x hk
      exact hz p H' z1 z2
    · exact hz.elim
  | err _ _ => rw [e] at hz; exact hz.elim
  | stuck => rw [e] at hz; exact hz.elim
section
variable {K : PySem.W.Frag} {mg : Str → Option Value} {W : WX} {B : Hp} {F : Addr → Bool} {pi : List (Option Addr)} {rho : List Sl} {mu : List D} {σ : L2.St} {H : Hp}
theorem Sat.call_new (S : Sat K mg B F pi rho mu σ H) {vs : List V} {ds : List D} (r : RpL K mg (hid F pi H) vs ds) : ∃ (B' : Hp) (F' : Addr → Bool), Sat K mg B' F' [] (ds.map .dat) [] (vs.map some) H ∧
    ∀ (p : Addr) (d : D) (H' : Hp), Sat K mg B' F' ([] ++ [some p]) (ds.map .dat) ([] ++ [d]) (vs.map some) H' → Ext (hid F' [] H) (hid F' ([] ++ [some p]) H') → Sat K mg B F (pi ++ [some p]) rho (mu ++ [d]) σ H' ∧ Ext (hid F pi H) (hid F (pi ++ [some p]) H') := by
  have ownF : ∀ a : Addr, pi.contains (some a) = true → B a = none ∧ F a = false ∧ ∃ o, H a = some o := fun a h => by
    obtain ⟨k, hk⟩ := mem_pi.mp h
    have hl : k < mu.length := by rw [← S.len]; exact (List.getElem?_eq_some_iff.mp hk).1
    obtain ⟨h1, h2, o, h3, _⟩ := S.own k a mu[k] hk (by simp [hl])
    exact ⟨h1, h2, o, h3⟩
  have hh : ∀ G : Hp, hid (fun a => F a || pi.contains (some a)) [] G = hid F pi G := fun G => by
    funext a; unfold hid hidB; simp
  refine ⟨fun a => if pi.contains (some a) = true then H a else B a, fun a => F a || pi.contains (some a), ⟨rfl, by rw [List.length_map, List.length_map, r.length], (fun i j a h => by simp at h), (fun k a d h => by simp at h), (fun k h => by simp at h), fun a h => ?_, fun a o e => ?_, fun i d h => ?_, fun i k h => ?_⟩, fun p d H' S' x => ?_⟩
  · have h : (F a || pi.contains (some a)) = true := h
    show (if pi.contains (some a) = true then H a else B a) ≠ none
    cases q : pi.contains (some a) with
    | true => rw [if_pos rfl]; obtain ⟨_, _, o, e⟩ := ownF a q; rw [e]; simp
    | false => rw [q, Bool.or_false] at h; rw [if_neg (by simp)]; exact S.forn a h
  · have e : (if pi.contains (some a) = true then H a else B a) = some o := e
    split at e
    · exact e
    · exact S.ext a o e
  · rw [List.getElem?_map] at h
    cases q : ds[i]? with
    | none => rw [q] at h; cases h
    | some e =>
      rw [q] at h; cases h
      obtain ⟨v, h1, h2⟩ := r.get q
      exact ⟨v, by rw [List.getElem?_map, h1]; rfl, by rw [hh]; exact h2⟩
  · rw [List.getElem?_map] at h
    cases q : ds[i]? with
    | none => rw [q] at h; cases h
    | some e => rw [q] at h; cases h
  · obtain ⟨b1, b2, o, b3, b4⟩ := S'.own 0 p d rfl rfl
    have b1 : (if pi.contains (some p) = true then H p else B p) = none := b1
    have b2 : (F p || pi.contains (some p)) = false := b2
    obtain ⟨nF, np⟩ := Bool.or_eq_false_iff.mp b2
    have nB : B p = none := by rw [if_neg (by rw [np]; simp)] at b1; exact b1
    have he : hid (fun a => F a || pi.contains (some a)) ([] ++ [some p]) H' = hid (addF F p) pi H' := by
      funext a
      have eb : hidB (fun a => F a || pi.contains (some a)) ([] ++ [some p]) a = hidB (addF F p) pi a := by
        have e : ([] ++ [some p] : List (Option Addr)).contains (some a) = decide (a = p) := by
          rw [Bool.eq_iff_iff, List.contains_iff_mem, decide_eq_true_eq]; simp
        show ((F a || pi.contains (some a)) || ([] ++ [some p] : List (Option Addr)).contains (some a)) = ((F a || decide (a = p)) || pi.contains (some a))
        rw [e, Bool.or_assoc, Bool.or_assoc, Bool.or_comm (pi.contains (some a))]
      unfold hid; rw [eb]
    rw [hh H, he] at x
    rw [he] at b4
    have same : ∀ a o', pi.contains (some a) = true → H a = some o' → H' a = some o' := fun a o' h e => S'.ext a o' (by show (if pi.contains (some a) = true then H a else B a) = some o'; rw [if_pos h]; exact e)
    have Z : Sat K mg (upd B p o) (addF F p) pi rho mu σ H' := by
      refine ⟨S.len, S.slen, S.inj, fun k a d' h1 h2 => ?_, S.frz, fun a h => ?_, fun a u e => ?_, fun i d' h => ?_, S.ref⟩
      · obtain ⟨c1, c2, u, c3, c4⟩ := S.own k a d' h1 h2
        have hin := mem_pi.mpr ⟨k, h1⟩
        have ne : a ≠ p := fun z => by subst z; rw [hin] at np; cases np
        exact ⟨by rw [upd_ne ne]; exact c1, by simp [addF, c2, ne], u, same a u hin c3, c4.mono x⟩
      · by_cases q : a = p
        · subst q; rw [upd_same]; simp
        · rw [upd_ne q]; exact S.forn a (by simpa [addF, q] using h)
      · by_cases q : a = p
        · subst q; rw [upd_same] at e; cases e; exact b3
        · rw [upd_ne q] at e
          cases z : pi.contains (some a) with
          | true => obtain ⟨c1, _⟩ := ownF a z; rw [c1] at e; cases e
          | false => exact S'.ext a u (by show (if pi.contains (some a) = true then H a else B a) = some u; rw [if_neg (by rw [z]; simp)]; exact e)
      · obtain ⟨v, h1, h2⟩ := S.dat i d' h
        exact ⟨v, h1, h2.mono x⟩
    obtain ⟨z1, z2⟩ := Z.own_lay nB nF b4
    exact ⟨z1, by rw [z2]; exact x⟩
end
/-- f(e, ..), f returns a new object, all arguments data -/
def eCallN (m : Mir) (n : Nat) (fa : FA) : FE := fun rho mu => (fa rho mu).bind fun ds mu1 => if ds.length = n then (match m (ds.map .dat) [] with
  | .ok d [] => .ok d mu1
  | _ => .stuck) else .stuck
theorem jn_call {X : Cx} {W : WX} {k j : Nat} {f : Addr} {fd : FuncData} {ps : List Str} {m : Mir} {x : Str} {e : Expr} {es : List Expr} {fa : FA} {p pos : Pos} (C : Ctx X k W) (G : FnN X.prog X.w X.K X.mg X.base j f fd ps m) (hj : j ≤ k) (hm : X.mg x = some (.ref f)) (kp : PySem.W.keepIn X.K (.ref f) = true)
    (hb : ∀ (s : Shared) (us : List Value), us.length = ps.length → BindsTo s fd ⟨us, []⟩ (ps.zip us)) (ha : JA X W (e :: es) fa) (hg : Gl X x := by rfl) (hdb : (x == ("__debug__" : Str)) = false := by decide)
    (he : starEach (e :: es) X.env = (false, eval e X.env) :: starEach es X.env := by rfl) (hpl : (backTo pos (starEach es X.env)).any (·.1) = false := by rfl) : JN X W (.Call (.Name x p) (e :: es) [] pos) (eCallN m ps.length fa) := by
  obtain ⟨ta, pa, da⟩ := ha
  refine ⟨fun σ H Q => ∃ B F pi rho mu, Sat X.K X.mg B F pi rho mu σ H ∧ ContN X.K X.mg W B F pi rho σ H Q (eCallN m ps.length fa rho mu), ⟨fun pins s σ H Q I ⟨B, F, pi, rho, mu, S, h⟩ => ?_⟩, fun B F pi rho mu σ H Q S h => ⟨B, F, pi, rho, mu, S, h⟩⟩
  refine wpAny_Call_Name_kw (ld_glob I hg hm ?_ hdb)
  refine PySem.W.callWith_K (h₀ := X.base) I.ok.mod.kin kp (thn (pa.run pos pins s σ H (fun vs H1 => ∃ mu1 ds, Sat X.K X.mg B F pi rho mu1 σ H1 ∧ RpL X.K X.mg (hid F pi H1) vs ds ∧ ContN X.K X.mg W B F pi rho σ H1 Q (if ds.length = ps.length then (match m (ds.map .dat) [] with
    | .ok d [] => .ok d mu1
    | _ => .stuck) else .stuck)) I (TDA.bindN da S h fun ds mu1 vs H1 S1 x1 r1 h1 => ⟨mu1, ds, S1, r1, h1⟩)) fun us s1 ⟨vs, H1, I1, rv, mu1, ds, S1, r1, h1⟩ => ⟨I1.kIn, ?_⟩) he hpl
  split at h1
  · rename_i hl
    obtain ⟨B', F', S2, back⟩ := S1.call_new r1
    have lv : vs.length = ps.length := r1.length.trans hl
    have lu : us.length = ps.length := rv.length.symm.trans lv
    have hz : ContN X.K X.mg WF B' F' [] (ds.map .dat) (vs.map some) H1 Q (m (ds.map .dat) []) := by
      cases e : m (ds.map .dat) [] with
      | ok d mu' =>
        rw [e] at h1
        cases mu' with
        | nil =>
          intro p H' S' x
          obtain ⟨z1, z2⟩ := back p d H' S' x
          exact h1 p H' z1 z2
        | cons _ _ => exact h1.elim
      | err _ _ => rw [e] at h1; exact h1.elim
      | stuck => rw [e] at h1; exact h1.elim
    refine wpAny_call (codeAny_mono (G.run X.A X.stack s1 H1 ⟨us, []⟩ us vs Q (fun _ _ _ => False) B' F' [] _ [] (C.room.mono hj) I1.env0 (hb s1 us lu) rv lv S2 hz) fun r s' hq => ?_)
    cases r with
    | error er =>
      obtain ⟨_, _, _, _, _, _, _, _, _, _, _, _, z⟩ := hq
      exact z.elim
    | ok fl =>
      cases fl with
      | ret u => exact I1.after hq
      | next => exact False.elim hq
      | brk => exact False.elim hq
      | cont => exact False.elim hq
  · exact h1.elim
theorem je_ownLen {X : Cx} {W : WX} (i : Nat) {x : Str} {p pn pos : Pos} (hm : X.mg "len" = none) (hN : X.N[i]? = some x := by rfl) (hv : Vis X.env.scope x := by first | exact Or.inl rfl | exact Or.inr (Or.inl rfl) | exact Or.inr (Or.inr rfl)) (hd : (x == ("__debug__" : Str)) = false := by decide)
    (hcd : (x == ("__classdict__" : Str)) = false := by decide) (hg : Gl X "len" := by rfl) (hs : starEach [.Name x pn] X.env = (false, eval (.Name x pn) X.env) :: starEach [] X.env := by rfl) (hpl : (backTo pos (starEach [] X.env)).any (·.1) = false := by rfl) :
    JE X W (.Call (.Name "len" p) [.Name x pn] [] pos) (eOwnLen i) := ⟨_, pe_callB call_len hg hm boot_len (pa_cons (pe_var hN hv hd hcd) pa_nil hs) (he := hs) (hpl := hpl), td_ownLen⟩
/-! ### short names of the rules for built-in functions -/
section
variable {X : Cx} {W : WX} {k : Nat} {e b : Expr} {fa : FA} {p pos : Pos}
theorem je_len (hm : X.mg "len" = none) (ha : JA X W [e] fa) (hg : Gl X "len" := by rfl) (he : starEach [e] X.env = (false, eval e X.env) :: starEach [] X.env := by rfl) (hpl : (backTo pos (starEach [] X.env)).any (·.1) = false := by rfl) : JE X W (.Call (.Name "len" p) [e] [] pos) (eA gLen fa) := je_bi call_len rd_len hm ha boot_len hg (he := he) (hpl := hpl)
theorem je_all (C : Ctx X k W) (hm : X.mg "all" = none) (ha : JA X W [e] fa) (hg : Gl X "all" := by rfl) (he : starEach [e] X.env = (false, eval e X.env) :: starEach [] X.env := by rfl) (hpl : (backTo pos (starEach [] X.env)).any (·.1) = false := by rfl) : JE X W (.Call (.Name "all" p) [e] [] pos) (eA gAll fa) := je_bi (cr_all C.calm) rd_all hm ha boot_all hg (he := he) (hpl := hpl)
theorem je_any (C : Ctx X k W) (hm : X.mg "any" = none) (ha : JA X W [e] fa) (hg : Gl X "any" := by rfl) (he : starEach [e] X.env = (false, eval e X.env) :: starEach [] X.env := by rfl) (hpl : (backTo pos (starEach [] X.env)).any (·.1) = false := by rfl) : JE X W (.Call (.Name "any" p) [e] [] pos) (eA gAny fa) := je_bi (cr_any C.calm) rd_any hm ha boot_any hg (he := he) (hpl := hpl)
theorem je_list (hm : X.mg "list" = none) (ha : JA X W [e] fa) (hg : Gl X "list" := by rfl) (he : starEach [e] X.env = (false, eval e X.env) :: starEach [] X.env := by rfl) (hpl : (backTo pos (starEach [] X.env)).any (·.1) = false := by rfl) : JE X W (.Call (.Name "list" p) [e] [] pos) (eA gListOf fa) := je_ty call_list_of rd_list hm ha boot_list hg (he := he) (hpl := hpl)
theorem je_tuple (hm : X.mg "tuple" = none) (ha : JA X W [e] fa) (hg : Gl X "tuple" := by rfl) (he : starEach [e] X.env = (false, eval e X.env) :: starEach [] X.env := by rfl) (hpl : (backTo pos (starEach [] X.env)).any (·.1) = false := by rfl) : JE X W (.Call (.Name "tuple" p) [e] [] pos) (eA gTupOf fa) := je_ty call_tuple_of rd_tuple hm ha boot_tuple hg (he := he) (hpl := hpl)
theorem je_strOf (hm : X.mg "str" = none) (ha : JA X W [e] fa) (hg : Gl X "str" := by rfl) (he : starEach [e] X.env = (false, eval e X.env) :: starEach [] X.env := by rfl) (hpl : (backTo pos (starEach [] X.env)).any (·.1) = false := by rfl) : JE X W (.Call (.Name "str" p) [e] [] pos) (eA gStrOf fa) := je_ty call_strU rd_str hm ha boot_str hg (he := he) (hpl := hpl)
theorem je_intOf (hm : X.mg "int" = none) (ha : JA X W [e] fa) (hg : Gl X "int" := by rfl) (he : starEach [e] X.env = (false, eval e X.env) :: starEach [] X.env := by rfl) (hpl : (backTo pos (starEach [] X.env)).any (·.1) = false := by rfl) : JE X W (.Call (.Name "int" p) [e] [] pos) (eA gIntOf fa) := je_ty call_intU rd_intOf hm ha boot_int hg (he := he) (hpl := hpl)
theorem je_min2 (C : Ctx X k W) (hm : X.mg "min" = none) (ha : JA X W [e, b] fa) (hg : Gl X "min" := by rfl) (he : starEach [e, b] X.env = (false, eval e X.env) :: starEach [b] X.env := by rfl) (hpl : (backTo pos (starEach [b] X.env)).any (·.1) = false := by rfl) : JE X W (.Call (.Name "min" p) [e, b] [] pos) (eA gMin2 fa) := je_bi (call_min2 C.calm) rd_min2 hm ha boot_min hg (he := he) (hpl := hpl)
theorem je_max2 (C : Ctx X k W) (hm : X.mg "max" = none) (ha : JA X W [e, b] fa) (hg : Gl X "max" := by rfl) (he : starEach [e, b] X.env = (false, eval e X.env) :: starEach [b] X.env := by rfl) (hpl : (backTo pos (starEach [b] X.env)).any (·.1) = false := by rfl) : JE X W (.Call (.Name "max" p) [e, b] [] pos) (eA gMax2 fa) := je_bi (call_max2 C.calm) rd_max2 hm ha boot_max hg (he := he) (hpl := hpl)
theorem je_sortedS (C : Ctx X k W) (hm : X.mg "sorted" = none) (ha : JA X W [e] fa) (hg : Gl X "sorted" := by rfl) (he : starEach [e] X.env = (false, eval e X.env) :: starEach [] X.env := by rfl) (hpl : (backTo pos (starEach [] X.env)).any (·.1) = false := by rfl) : JE X W (.Call (.Name "sorted" p) [e] [] pos) (eA gSortedS fa) := je_bi cr_sortedS rd_sortedS hm ha boot_sorted hg (he := he) (hpl := hpl)
theorem je_isi {tb : List (Str × Str × Bool)} (ok : ∀ r ∈ tb, IsiOk X.K X.mg r.1 r.2.1 r.2.2) (hm : X.mg "isinstance" = none) (ha : JA X W [e, b] fa) (hg : Gl X "isinstance" := by rfl) (he : starEach [e, b] X.env = (false, eval e X.env) :: starEach [b] X.env := by rfl) (hpl : (backTo pos (starEach [b] X.env)).any (·.1) = false := by rfl) :
    JE X W (.Call (.Name "isinstance" p) [e, b] [] pos) (eA (gIsi tb) fa) := je_bi call_isi (rd_isi ok) hm ha boot_isinstance hg (he := he) (hpl := hpl)
end
end DL

set_option maxHeartbeats 4000000
/-! DLs: how calls bind, by the shapes of calls; the text's statements. -/
namespace DL
open PySem PySem.Spec PyProof.Rows L2 ClX
/-- a statement of a class body -/
def inCls (s : Stmt) (j : Nat) : Stmt := match s with
  | .ClassDef _ _ _ body _ _ _ _ _ _ _ => body.getD j (.Pass ⟨0, 0, 0, 0⟩)
  | s => s
def srcW (us ws : List Value) : Src → Value
  | .p i => us.getD i .none
  | .k j => ws.getD j .none
  | .d _ _ => .none
def Src.plain (n m : Nat) : Src → Bool
  | .p i => decide (i < n)
  | .k j => decide (j < m)
  | .d _ _ => false
theorem vals_getD {vs : List V} {us : List Value} {i : Nat} (r : Vals vs us) (h : i < vs.length) : L2.RelV (vs.getD i .non) (us.getD i .none) := by
  obtain ⟨u, e, rv⟩ := r.get (List.getElem?_eq_getElem h)
  rw [List.getD_eq_getElem?_getD, List.getD_eq_getElem?_getD, e, List.getElem?_eq_getElem h]
  exact rv
section
variable {K : PySem.W.Frag} {mg : Str → Option Value} {x qual : Str} {params : Arguments} {body : List Stmt} {scope : Scope} {kws : List (Str × V)} {f : Addr} {fd : FuncData} {ps ks : List Str} {n : Nat}
/-- all parameters are written (positionally, by keywords) -/
theorem bd_w (F : FunD K x qual params body scope [] kws f fd) (srcs : List Src) (hlen : srcs.length = ps.length) (hwf : (srcs.all fun s => s.plain n ks.length) = true)
    (h : ∀ (kV doc pm : Value) (an : Option Addr) (cdv ct : Value) (us ws : List Value), us.length = n → ws.length = ks.length → bindArgs (PySem.W.fnOf x qual params body scope .none kV doc pm an cdv ct) ⟨us, ks.zip ws⟩ = pure (ps.zip (srcs.map (srcW us ws)))) : Bd K mg fd ps n ks srcs := by
  obtain ⟨oc, od, dV, kV, doc, pm, an, cdv, ct, osl, rfl, lk, hcd, hD, hK⟩ := F.ex
  rcases hD with ⟨_, rfl⟩ | ⟨e, _⟩
  · refine ⟨hlen, fun s hs => ?_, fun s vs zs us ws X rv rz l1 l2 => ⟨_, .of_eq (h kV doc pm an cdv ct us ws l1 l2), ?_⟩⟩
    · have := List.all_eq_true.mp hwf s hs
      cases s with
      | p i => exact (of_decide_eq_true this : i < n)
      | k j => exact (of_decide_eq_true this : j < ks.length)
      | d v x => cases this
    · have go : ∀ l : List Src, (∀ s ∈ l, s.plain n ks.length = true) → Vals (l.map (srcV vs zs)) (l.map (srcW us ws)) := fun l => by
        induction l with
        | nil => intro _; exact .nil
        | cons s l ih =>
          intro hl
          refine .cons ?_ (ih fun y hy => hl y (List.mem_cons_of_mem _ hy))
          have q := hl s List.mem_cons_self
          cases s with
          | p i => exact vals_getD rv (by rw [rv.length, l1]; exact of_decide_eq_true q)
          | k j => exact vals_getD rz (by rw [rz.length, l2]; exact of_decide_eq_true q)
          | d v x => cases q
      exact go srcs fun s hs => List.all_eq_true.mp hwf s hs
  · exact absurd rfl e
theorem range_getD (vs : List V) : (List.range vs.length).map (fun i => vs.getD i .non) = vs := by
  apply List.ext_getElem?
  intro i
  rw [List.getElem?_map]
  by_cases h : i < vs.length
  · rw [List.getElem?_range h, List.getElem?_eq_getElem h]
    simp [List.getD_eq_getElem?_getD, List.getElem?_eq_getElem h]
  · rw [List.getElem?_eq_none (by simpa using h), List.getElem?_eq_none (by simpa using h)]; rfl
/-- all positional ones are written, the keyword-only ones take their defaults -/
theorem bd_d0 (F : FunD K x qual params body scope [] kws f fd) (ds : List D) (hn : n + kws.length = ps.length) (hk : kws ≠ []) (hd : RpL K mg (fun _ => none) (kws.map (·.2)) ds) (hall : ∀ (H : Hp) (v : V) (d : D), Rp K mg (fun _ => none) v d → Rp K mg H v d)
    (h : ∀ (D : Addr) (doc pm : Value) (an : Option Addr) (cdv ct : Value) (us ks : List Value), us.length = n → ks.length = kws.length →
      KwChain D ((kws.map (·.1)).zip ks) (bindArgs (PySem.W.fnOf x qual params body scope .none (.ref D) doc pm an cdv ct) ⟨us, []⟩) (ps.zip (us ++ ks))) :
    Bd K mg fd ps n [] ((List.range n).map Src.p ++ ((kws.map (·.2)).zip ds).map fun q => .d q.1 q.2) := by
  obtain ⟨gs, rg, bnd⟩ := F.binds0 n hk hn h
  have lds : ds.length = kws.length := by have := hd.length; rw [List.length_map] at this; exact this.symm
  have pairs : ∀ {vs : List V} {es : List D}, RpL K mg (fun _ => none) vs es → (∀ s ∈ (vs.zip es).map (fun q => Src.d q.1 q.2), s.ok K mg n 0) ∧ ∀ ws zs : List V, ((vs.zip es).map (fun q => Src.d q.1 q.2)).map (srcV ws zs) = vs := fun {vs es} r => by
    induction es generalizing vs with
    | nil => cases r; exact ⟨fun s hs => by simp at hs, fun _ _ => rfl⟩
    | cons e es ih =>
      cases r with
      | cons a r =>
        obtain ⟨i1, i2⟩ := ih r
        refine ⟨fun s hs => ?_, fun ws zs => ?_⟩
        · rcases List.mem_cons.mp (show s ∈ Src.d _ e :: _ from hs) with q | q
          · subst q; exact fun H => hall H _ _ a
          · exact i1 s q
        · exact congrArg (List.cons _) (i2 ws zs)
  obtain ⟨p1, p2⟩ := pairs hd
  refine ⟨by simp [lds]; omega, fun s hs => ?_, fun s vs zs us ws X rv rz l1 l2 => ?_⟩
  · rcases List.mem_append.mp hs with q | q
    · obtain ⟨i, hi, rfl⟩ := List.mem_map.mp q
      exact List.mem_range.mp hi
    · exact p1 s q
  · have ew : ws = [] := List.length_eq_zero_iff.mp l2
    subst ew
    refine ⟨us ++ gs, bnd s us X (by rw [List.length_append, l1, ← rg.length, List.length_map]; exact hn), ?_⟩
    rw [List.map_append, List.map_map, p2]
    have lv : vs.length = n := rv.length.trans l1
    have e : (List.range n).map (srcV vs zs ∘ Src.p) = vs := by rw [← lv]; exact range_getD vs
    rw [e]
    exact rv.append rg
end
theorem rp_any {K : PySem.W.Frag} {mg : Str → Option Value} (H : Hp) (v : V) (d : D) (r : Rp K mg (fun _ => none) v d) : Rp K mg H v d := r.mono fun a o e => by cases e
theorem jn_callE {X : Cx} {W : WX} {k j : Nat} {f : Addr} {ps : List Str} {m : Mir} {x : Str} {e : Expr} {es : List Expr} {fa : FA} {p pos : Pos} (C : Ctx X k W) (G : ∃ fd, FnN X.prog X.w X.K X.mg X.base j f fd ps m ∧ ∀ (s : Shared) (us : List Value), us.length = ps.length → BindsTo s fd ⟨us, []⟩ (ps.zip us)) (hj : j ≤ k) (hm : X.mg x = some (.ref f)) (kp : PySem.W.keepIn X.K (.ref f) = true)
    (ha : JA X W (e :: es) fa) (hg : Gl X x := by rfl) (hdb : (x == ("__debug__" : Str)) = false := by decide)
    (he : starEach (e :: es) X.env = (false, eval e X.env) :: starEach es X.env := by rfl) (hpl : (backTo pos (starEach es X.env)).any (·.1) = false := by rfl) : JN X W (.Call (.Name x p) (e :: es) [] pos) (eCallN m ps.length fa) :=
  let ⟨_, G, hb⟩ := G; jn_call C G hj hm kp hb ha hg hdb he hpl
/-! constants of the module, classes as values, fields -/
section
variable {K : PySem.W.Frag} {mg : Str → Option Value}
theorem gd_cls {c : Str} {C : Addr} (h : mg c = some (.ref C)) : GD K mg c (.cls c) := ⟨.ref C, _, h, rfl, fun _ => .cls h⟩
theorem gd_int {x : Str} {i : Int} (h : ∃ t, mg x = some (.int i t)) : GD K mg x (.int i) := let ⟨_, h⟩ := h; ⟨.int i, _, h, ⟨_, rfl⟩, fun _ => .int i⟩
theorem gd_str {x z : Str} (h : ∃ t, mg x = some (.str z t)) : GD K mg x (.str z) := let ⟨_, h⟩ := h; ⟨.str z, _, h, ⟨_, rfl⟩, fun _ => .str z⟩
theorem attr_ok {c f : Str} (hm : mg c = some (.ref (He.ga K c))) (cl : Cls K (He.ga K c)) (na : NoAttr K (He.ga K c) f) : AttrOk K mg [c] f := fun c' hc C hC => by
  have e : c' = c := by simpa using hc
  subst e
  rw [hm] at hC; cases hC
  exact ⟨cl, na⟩
end
end DL

set_option maxHeartbeats 4000000
namespace DL
open PySem PySem.Spec PyProof.Rows L2 ClX
namespace K57
abbrev tb_isi : List (Str × Str × Bool) := [((Str.ofString "Scheme"), (Str.ofString "Scheme"), true)]
def F_law_source : FE := zSeq (sSet 1 (eC (.int 4917))) (zSeq (sFor (aIt (eSlice (eVar 0) (oNone) (oSome (eC (.int 63))))) (gN 2) (sSet 1 (e2 gMod (eA gIntOf (aCons (e2 gAdd (e2 gAdd (e2 gMul (eVar 1) (eC (.int 46351))) (e2 gMod (eA gIntOf (aCons (eVar 2) (aNil))) (eC (.int 2147483399)))) (eC (.int 29))) (aNil))) (eC (.int 2147483549))))) (eA gLst (aCons (eA gListOf (aCons (eSlice (eVar 0) (oNone) (oSome (eC (.int 63)))) (aNil))) (aCons (eC (.int 0)) (aCons (eC (.int 0)) (aCons (eVar 1) (aCons (eC (.int 0)) (aNil))))))))
def m_law_source : Mir := mirZ 3 F_law_source
def F_law_draw : FS := sSeq (sIf (eAnd (e2 gLt (eOwnIx 0 (eC (.int 2))) (eVar 1)) (e2 gLt (eOwnIx 0 (eC (.int 1))) (eA gLen (aCons (eOwnIx 0 (eC (.int 0))) (aNil))))) (sSeq (sSet 2 (e2 gIx (eOwnIx 0 (eC (.int 0))) (eOwnIx 0 (eC (.int 1))))) (sSeq (sOwnSet 0 (eC (.int 1)) (e2 gAdd (eOwnIx 0 (eC (.int 1))) (eC (.int 1)))) (sSeq (sOwnSet 0 (eC (.int 3)) (e2 gMod (eA gIntOf (aCons (e2 gAdd (e2 gAdd (e2 gMul (eOwnIx 0 (eC (.int 3))) (eC (.int 40853))) (e2 gMul (e2 gMod (eA gIntOf (aCons (eVar 2) (aNil))) (eC (.int 2147483477))) (eC (.int 59)))) (eOwnIx 0 (eC (.int 1)))) (aNil))) (eC (.int 2147483549)))) (sOwnSet 0 (eC (.int 2)) (eIf (e2 gGe (eVar 2) (e2 gPow (eC (.int 10)) (eC (.int 18)))) (eVar 2) (eC (.int 0))))))) (sNx)) (sSeq (sIf (e2 gGe (eOwnIx 0 (eC (.int 2))) (eVar 1)) (sSeq (sSet 3 (e2 gMod (eA gIntOf (aCons (eOwnIx 0 (eC (.int 2))) (aNil))) (eVar 1))) (sSeq (sOwnSet 0 (eC (.int 2)) (e2 gFdiv (eOwnIx 0 (eC (.int 2))) (eVar 1))) (sRet (eVar 3)))) (sNx)) (sSeq (sOwnSet 0 (eC (.int 4)) (e2 gAdd (eOwnIx 0 (eC (.int 4))) (eC (.int 1)))) (sSeq (sSet 4 (e2 gMod (eA gIntOf (aCons (e2 gAdd (eOwnIx 0 (eC (.int 3))) (e2 gMul (eOwnIx 0 (eC (.int 4))) (eC (.int 7919)))) (aNil))) (eC (.int 2147483549)))) (sSeq (sOwnSet 0 (eC (.int 3)) (e2 gMod (eA gIntOf (aCons (e2 gAdd (e2 gAdd (e2 gMul (eVar 4) (eVar 4)) (e2 gMul (eVar 4) (eC (.int 30011)))) (eC (.int 1299827))) (aNil))) (eC (.int 2147483549)))) (sRet (e2 gMod (eA gIntOf (aCons (e2 gAdd (e2 gFdiv (eOwnIx 0 (eC (.int 3))) (eC (.int 61))) (e2 gMul (e2 gMod (eA gIntOf (aCons (eOwnIx 0 (eC (.int 3))) (aNil))) (eC (.int 8087))) (eC (.int 193)))) (aNil))) (eVar 1)))))))
def m_law_draw : Mir := mirB 5 F_law_draw
abbrev c_law_draw : List Sl → List Sl → List D → Rs D := cFn m_law_draw 2 0 [.p 0, .p 1]
def F_law_pick : FS := sRet (e2 gIx (eVar 1) (eCall c_law_draw (lCons (rVar 0) (lCons (rDat (eA gLen (aCons (eVar 1) (aNil)))) (lNil))) (lNil)))
def m_law_pick : Mir := mirB 2 F_law_pick
abbrev c_law_pick : List Sl → List Sl → List D → Rs D := cFn m_law_pick 2 0 [.p 0, .p 1]
def F_law_names : FS := sSeq (sSet 2 (eC (.str (Str.ofString "abcdefghijklmnopqrstuvwxyz")))) (sSeq (sSet 3 (eM1 gJoin (eC (.str (Str.ofString ""))) (eLc (aRange1 (aCons (eC (.int 7)) (aNil))) (gN 8) (eC (.bl true)) (eCall c_law_pick (lCons (rVar 0) (lCons (rVar 2) (lNil))) (lNil)) [8]))) (sSeq (sParX 4 5 (xDat (eCall c_law_draw (lCons (rVar 0) (lCons (rDat (eC (.int 5))) (lNil))) (lNil)) (xDat (eCall c_law_draw (lCons (rVar 0) (lCons (rDat (eC (.int 26))) (lNil))) (lNil)) (xNil)))) (sSeq (sParX 6 7 (xDat (eCall c_law_pick (lCons (rVar 0) (lCons (rDat (eA gLst (aCons (eC (.int 1)) (aCons (eC (.int 3)) (aCons (eC (.int 5)) (aCons (eC (.int 7)) (aCons (eC (.int 9)) (aCons (eC (.int 11)) (aCons (eC (.int 15)) (aCons (eC (.int 17)) (aCons (eC (.int 19)) (aCons (eC (.int 21)) (aCons (eC (.int 23)) (aCons (eC (.int 25)) (aNil))))))))))))))) (lNil))) (lNil)) (xNew (eA gLst (aNil)) (xNil)))) (sSeq (sFor (aRange1 (aCons (eVar 1) (aNil))) (gN 8) (sSeq (sSet 9 (e2 gIx (eVar 2) (e2 gMod (eA gIntOf (aCons (e2 gAdd (eVar 5) (e2 gMul (eVar 8) (eVar 6))) (aNil))) (eC (.int 26))))) (sMut 7 gAppend (aCons (e2 gAdd (e2 gAdd (eSlice (eVar 3) (oNone) (oSome (eVar 4))) (eVar 9)) (eSlice (eVar 3) (oSome (eVar 4)) (oSome (e2 gAdd (eVar 4) (eCall c_law_draw (lCons (rVar 0) (lCons (rDat (e2 gSub (eC (.int 8)) (eVar 4))) (lNil))) (lNil)))))) (aNil))))) (sFrz 7 (sRet (eVar 7)))))))
def m_law_names : Mir := mirB 10 F_law_names
abbrev c_law_names : List Sl → List Sl → List D → Rs D := cFn m_law_names 2 0 [.p 0, .p 1]
def F_law_site : FS := sSeq (sSet 2 (eCall c_law_pick (lCons (rVar 0) (lCons (rDat (eA gLst (aCons (eC (.int 0)) (aCons (eC (.int 0)) (aCons (eC (.int 1)) (aCons (eCall c_law_draw (lCons (rVar 0) (lCons (rDat (eC (.int 5))) (lNil))) (lNil)) (aCons (e2 gSub (e2 gPow (eC (.int 10)) (eC (.int 12))) (eC (.int 3))) (aNil)))))))) (lNil))) (lNil))) (sSeq (sSet 3 (eA gMin2 (aCons (e2 gPow (eC (.int 10)) (eC (.int 12))) (aCons (e2 gAdd (eVar 2) (eCall c_law_pick (lCons (rVar 0) (lCons (rDat (eA gLst (aCons (eC (.int 0)) (aCons (eC (.int 2)) (aCons (eC (.int 3)) (aCons (eC (.int 5)) (aCons (eC (.int 9)) (aCons (e2 gPow (eC (.int 10)) (eC (.int 12))) (aNil))))))))) (lNil))) (lNil))) (aNil))))) (sSeq (sSet 4 (eCall c_law_pick (lCons (rVar 0) (lCons (rDat (eA gLst (aCons (eC (.int 1)) (aCons (eC (.int 1)) (aCons (eC (.int 2)) (aCons (eC (.int 3)) (aCons (e2 gSub (eC (.int 0)) (eC (.int 1))) (aCons (e2 gSub (eC (.int 0)) (eC (.int 2))) (aCons (eC (.int 0)) (aCons (eC (.int 1000)) (aNil))))))))))) (lNil))) (lNil))) (sSeq (sSet 5 (eLc (aRange1 (aCons (eC (.int 2)) (aNil))) (gN 6) (eC (.bl true)) (eCall c_law_pick (lCons (rVar 0) (lCons (rDat (eA gLst (aCons (eC (.int 0)) (aCons (eC (.int 0)) (aCons (eC (.int 1)) (aCons (eC (.int 2)) (aCons (e2 gPow (eC (.int 10)) (eC (.int 12))) (aNil)))))))) (lNil))) (lNil)) [6])) (sRet (eA gTup (aCons (eVar 1) (aCons (eVar 4) (aCons (eVar 2) (aCons (eVar 3) (aCons (e2 gIx (eVar 5) (eC (.int 0))) (aCons (e2 gIx (eVar 5) (eC (.int 1))) (aNil))))))))))))
def m_law_site : Mir := mirB 7 F_law_site
abbrev c_law_site : List Sl → List Sl → List D → Rs D := cFn m_law_site 2 0 [.p 0, .p 1]
def F_law_spec : FS := sSeq (sSet 4 (eCall c_law_names (lCons (rVar 0) (lCons (rDat (eC (.int 7))) (lNil))) (lNil))) (sSeq (sSet 5 (eLc (aIt (eSlice (eVar 4) (oNone) (oSome (e2 gAdd (eC (.int 1)) (eCall c_law_draw (lCons (rVar 0) (lCons (rVar 1) (lNil))) (lNil)))))) (gN 7) (eC (.bl true)) (eCall c_law_site (lCons (rVar 0) (lCons (rVar 7) (lNil))) (lNil)) [7])) (sSeq (sSet 6 (eCall c_law_pick (lCons (rVar 0) (lCons (rDat (eA gLst (aCons (eC (.int 0)) (aCons (eC (.int 2)) (aCons (eC (.int 2)) (aNil)))))) (lNil))) (lNil))) (sRet (eA gTup (aCons (eVar 5) (aCons (eA gSortedS (aCons (eSlice (eVar 4) (oSome (eVar 6)) (oSome (e2 gAdd (e2 gAdd (eVar 6) (eC (.int 2))) (eCall c_law_draw (lCons (rVar 0) (lCons (rDat (e2 gSub (eVar 2) (eC (.int 1)))) (lNil))) (lNil))))) (aNil))) (aCons (eCall c_law_pick (lCons (rVar 0) (lCons (rVar 3) (lNil))) (lNil)) (aNil))))))))
def m_law_spec : Mir := mirB 8 F_law_spec
abbrev c_law_spec : List Sl → List Sl → List D → Rs D := cFn m_law_spec 4 0 [.p 0, .p 1, .p 2, .p 3]
def F_is_name : FS := sRet (eAnd (eChain gLe gLe (eC (.int 1)) (eA gLen (aCons (eVar 0) (aNil))) (eC (.int 8))) (eA gAll (aCons (eLc (aIt (eVar 0)) (gN 1) (eC (.bl true)) (e2 gIn (eVar 1) (eC (.str (Str.ofString "abcdefghijklmnopqrstuvwxyz")))) [1]) (aNil))))
def m_is_name : Mir := mirB 2 F_is_name
abbrev c_is_name : List Sl → List Sl → List D → Rs D := cFn m_is_name 1 0 [.p 0]
def F_is_amount : FS := sRet (eChain gLe gLe (eC (.int 0)) (eVar 0) (eC (.int 1000000000000)))
def m_is_amount : Mir := mirB 1 F_is_amount
abbrev c_is_amount : List Sl → List Sl → List D → Rs D := cFn m_is_amount 1 0 [.p 0]
def F_is_site : FS := sSeq (sIf (eOr (e2 gNe (eA gLen (aCons (eVar 0) (aNil))) (eC (.int 6))) (eNot (eCall c_is_name (lCons (rDat (e2 gIx (eVar 0) (eC (.int 0)))) (lNil)) (lNil)))) (sRet (eC (.bl false))) (sNx)) (sSeq (sTgt (eVar 0) (gTupD 6 (gsCons (gN 1) (gsCons (gN 2) (gsCons (gN 3) (gsCons (gN 4) (gsCons (gN 5) (gsCons (gN 6) (gsNil))))))))) (sSeq (sIf (eOr (eNot (eChain gLe gLe (e1 gNeg (eC (.int 1000))) (eVar 2) (eC (.int 1000)))) (eOr (eNot (eCall c_is_amount (lCons (rVar 5) (lNil)) (lNil))) (eNot (eCall c_is_amount (lCons (rVar 6) (lNil)) (lNil))))) (sRet (eC (.bl false))) (sNx)) (sRet (eAnd (eCall c_is_amount (lCons (rVar 3) (lNil)) (lNil)) (eAnd (eCall c_is_amount (lCons (rVar 4) (lNil)) (lNil)) (e2 gLe (eVar 3) (eVar 4)))))))
def m_is_site : Mir := mirB 7 F_is_site
abbrev c_is_site : List Sl → List Sl → List D → Rs D := cFn m_is_site 1 0 [.p 0]
def F_repeated : FS := sRet (e2 gIn (e2 gIx (eVar 0) (eVar 1)) (eSlice (eVar 0) (oNone) (oSome (eVar 1))))
def m_repeated : Mir := mirB 2 F_repeated
abbrev c_repeated : List Sl → List Sl → List D → Rs D := cFn m_repeated 2 0 [.p 0, .p 1]
def F_Scheme_dinit : FS := sSeq (sIf (eNot (eChain gLe gLe (eC (.int 1)) (eA gLen (aCons (eVar 1) (aNil))) (eC (.int 4)))) (sNever) (sNx)) (sSeq (sFor (aEnumA (aCons (eVar 1) (aNil))) (gTupD 2 (gsCons (gN 4) (gsCons (gN 5) (gsNil)))) (sIf (eOr (eNot (eCall c_is_site (lCons (rVar 5) (lNil)) (lNil))) (e2 gIn (e2 gIx (eVar 5) (eC (.int 0))) (eLc (aIt (eSlice (eVar 1) (oNone) (oSome (eVar 4)))) (gN 7) (eC (.bl true)) (e2 gIx (eVar 7) (eC (.int 0))) [7]))) (sNever) (sNx))) (sSeq (sIf (eNot (eChain gLe gLe (eC (.int 1)) (eA gLen (aCons (eVar 2) (aNil))) (eC (.int 10)))) (sNever) (sNx)) (sSeq (sFor (aEnumA (aCons (eVar 2) (aNil))) (gTupD 2 (gsCons (gN 4) (gsCons (gN 6) (gsNil)))) (sIf (eOr (eNot (eCall c_is_name (lCons (rVar 6) (lNil)) (lNil))) (eCall c_repeated (lCons (rVar 2) (lCons (rVar 4) (lNil))) (lNil))) (sNever) (sNx))) (sSeq (sIf (eAnd (e2 gIsNot (eVar 3) (eC .non)) (eNot (eChain gLe gLe (eC (.int 0)) (eVar 3) (eC (.int 1000000000))))) (sNever) (sNx)) (sSeq (sAttr [(Str.ofString "Scheme")] (Str.ofString "parts") 0 (eLc (aIt (eVar 1)) (gN 5) (eC (.bl true)) (eA gTupOf (aCons (eVar 5) (aNil))) [5])) (sSeq (sAttr [(Str.ofString "Scheme")] (Str.ofString "words") 0 (eA gSortedS (aCons (eA gListOf (aCons (eVar 2) (aNil))) (aNil)))) (sAttr [(Str.ofString "Scheme")] (Str.ofString "guests") 0 (eVar 3))))))))
def m_Scheme_dinit : Mir := mirB 8 F_Scheme_dinit
abbrev c_Scheme_dinit_3_strangers : List Sl → List Sl → List D → Rs D := cFn m_Scheme_dinit 3 1 [.p 0, .p 1, .p 2, .k 0]
abbrev c_Scheme_dinit_3 : List Sl → List Sl → List D → Rs D := cFn m_Scheme_dinit 3 0 [.p 0, .p 1, .p 2, .d (.int 0) (.int 0)]
def F_law_scheme : FS := sRet (eCall (cMk (Str.ofString "Scheme") c_Scheme_dinit_3_strangers) (lCons (rDat (e2 gIx (eVar 0) (eC (.int 0)))) (lCons (rDat (e2 gIx (eVar 0) (eC (.int 1)))) (lNil))) (lCons (rDat (e2 gIx (eVar 0) (eC (.int 2)))) (lNil)))
def m_law_scheme : Mir := mirB 1 F_law_scheme
abbrev c_law_scheme : List Sl → List Sl → List D → Rs D := cFn m_law_scheme 1 0 [.p 0]
def F_law_scheme_lines : FS := sSeq (sNew 1 (eLc (aIt (e2 gIx (eVar 0) (eC (.int 0)))) (gN 2) (eC (.bl true)) (eM1 gJoin (eC (.str (Str.ofString " "))) (e2 gAdd (eA gLst (aCons (eC (.str (Str.ofString "site"))) (aNil))) (eLc (aIt (eVar 2)) (gN 3) (eC (.bl true)) (eA gStrOf (aCons (eVar 3) (aNil))) [3]))) [2])) (sSeq (sMut 1 gAppend (aCons (eM1 gJoin (eC (.str (Str.ofString " "))) (e2 gAdd (eA gLst (aCons (eC (.str (Str.ofString "items"))) (aNil))) (e2 gIx (eVar 0) (eC (.int 1))))) (aNil))) (sFrz 1 (sRet (e2 gAdd (eVar 1) (eA gLst (aCons (e2 gAdd (eC (.str (Str.ofString "strangers "))) (eIf (e2 gIs (e2 gIx (eVar 0) (eC (.int 2))) (eC .non)) (eC (.str (Str.ofString "any"))) (eA gStrOf (aCons (e2 gIx (eVar 0) (eC (.int 2))) (aNil))))) (aNil)))))))
def m_law_scheme_lines : Mir := mirB 4 F_law_scheme_lines
abbrev c_law_scheme_lines : List Sl → List Sl → List D → Rs D := cFn m_law_scheme_lines 1 0 [.p 0]
def F_law_same : FS := sRet (e2 gEq (eA gRepr (aCons (eVar 0) (aNil))) (eA gRepr (aCons (eVar 1) (aNil))))
def m_law_same : Mir := mirB 2 F_law_same
abbrev c_law_same : List Sl → List Sl → List D → Rs D := cFn m_law_same 2 0 [.p 0, .p 1]
def F_Scheme_sites : FS := sRet (eA gListOf (aCons (eAttr [(Str.ofString "Scheme")] (Str.ofString "parts") (rVar 0)) (aNil)))
def m_Scheme_sites : Mir := mirB 1 F_Scheme_sites
abbrev c_Scheme_sites : List Sl → List Sl → List D → Rs D := cFn m_Scheme_sites 1 0 [.p 0]
def F_Scheme_strangers : FS := sRet (eAttr [(Str.ofString "Scheme")] (Str.ofString "guests") (rVar 0))
def m_Scheme_strangers : Mir := mirB 1 F_Scheme_strangers
abbrev c_Scheme_strangers : List Sl → List Sl → List D → Rs D := cFn m_Scheme_strangers 1 0 [.p 0]
def F_Scheme_names : FS := sRet (eA gListOf (aCons (eAttr [(Str.ofString "Scheme")] (Str.ofString "words") (rVar 0)) (aNil)))
def m_Scheme_names : Mir := mirB 1 F_Scheme_names
abbrev c_Scheme_names : List Sl → List Sl → List D → Rs D := cFn m_Scheme_names 1 0 [.p 0]
def F_scheme_lines : FS := sSeq (sSet 1 (eLc (aIt (eMeth (Str.ofString "Scheme") (Str.ofString "sites") (rVar 0) c_Scheme_sites lNil lNil)) (gN 3) (eC (.bl true)) (eM1 gJoin (eC (.str (Str.ofString " "))) (eA gLst (aCons (eC (.str (Str.ofString "site"))) (aStar (eLc (aIt (eVar 3)) (gN 4) (eC (.bl true)) (eA gStrOf (aCons (eVar 4) (aNil))) [4]) (aNil))))) [3])) (sSeq (sSet 2 (eIf (e2 gIs (eSpec (Str.ofString "Scheme") c_Scheme_strangers (rVar 0) some) (eC .non)) (eC (.str (Str.ofString "any"))) (eA gStrOf (aCons (eSpec (Str.ofString "Scheme") c_Scheme_strangers (rVar 0) some) (aNil))))) (sRet (eA gLst (aStar (eVar 1) (aCons (eM1 gJoin (eC (.str (Str.ofString " "))) (eA gLst (aCons (eC (.str (Str.ofString "items"))) (aStar (eMeth (Str.ofString "Scheme") (Str.ofString "names") (rVar 0) c_Scheme_names lNil lNil) (aNil))))) (aCons (jsD [eC (.str (Str.ofString "strangers ")), e1 gFmt (eVar 2)] Str.empty) (aNil)))))))
def m_scheme_lines : Mir := mirB 5 F_scheme_lines
abbrev c_scheme_lines : List Sl → List Sl → List D → Rs D := cFn m_scheme_lines 1 0 [.p 0]
def F_scheme_text : FS := sRet (eM1 gJoin (eC (.str (Str.ofString "\n"))) (eCall c_scheme_lines (lCons (rVar 0) (lNil)) (lNil)))
def m_scheme_text : Mir := mirB 1 F_scheme_text
abbrev c_scheme_text : List Sl → List Sl → List D → Rs D := cFn m_scheme_text 1 0 [.p 0]
abbrev c_scheme_text_0_scheme : List Sl → List Sl → List D → Rs D := cFn m_scheme_text 0 1 [.k 0]
def F_Scheme_dlen : FS := sRet (eA gLen (aCons (eAttr [(Str.ofString "Scheme")] (Str.ofString "words") (rVar 0)) (aNil)))
def m_Scheme_dlen : Mir := mirB 1 F_Scheme_dlen
abbrev c_Scheme_dlen : List Sl → List Sl → List D → Rs D := cFn m_Scheme_dlen 1 0 [.p 0]
def F_Scheme_drepr : FS := sRet (jsD [eC (.str (Str.ofString "Scheme(")), e1 gFmt (eA gLen (aCons (eAttr [(Str.ofString "Scheme")] (Str.ofString "parts") (rVar 0)) (aNil))), eC (.str (Str.ofString " sites, ")), e1 gFmt (eA gLen (aCons (eAttr [(Str.ofString "Scheme")] (Str.ofString "words") (rVar 0)) (aNil))), eC (.str (Str.ofString " items)"))] Str.empty)
def m_Scheme_drepr : Mir := mirB 1 F_Scheme_drepr
abbrev c_Scheme_drepr : List Sl → List Sl → List D → Rs D := cFn m_Scheme_drepr 1 0 [.p 0]
def F_Scheme_site_named : FS := sSeq (sFor (aIt (eAttr [(Str.ofString "Scheme")] (Str.ofString "parts") (rVar 0))) (gN 2) (sIf (e2 gEq (e2 gIx (eVar 2) (eC (.int 0))) (eVar 1)) (sRet (eVar 2)) (sNx))) (sNever)
def m_Scheme_site_named : Mir := mirB 3 F_Scheme_site_named
abbrev c_Scheme_site_named : List Sl → List Sl → List D → Rs D := cFn m_Scheme_site_named 2 0 [.p 0, .p 1]
def F_law_scheme_so : FS := sSeq (sSet 2 (eA gLst (aCons (eMeth (Str.ofString "Scheme") (Str.ofString "sites") (rVar 0) c_Scheme_sites lNil lNil) (aCons (eMeth (Str.ofString "Scheme") (Str.ofString "names") (rVar 0) c_Scheme_names lNil lNil) (aCons (eSpec (Str.ofString "Scheme") c_Scheme_strangers (rVar 0) some) (aCons (eSpec (Str.ofString "Scheme") c_Scheme_dlen (rVar 0) gLenB) (aCons (eSpec (Str.ofString "Scheme") c_Scheme_drepr (rVar 0) gStrB) (aNil)))))))) (sSeq (sSet 3 (e2 gAdd (e2 gAdd (e2 gAdd (e2 gAdd (eC (.str (Str.ofString "Scheme("))) (eA gStrOf (aCons (eA gLen (aCons (e2 gIx (eVar 1) (eC (.int 0))) (aNil))) (aNil)))) (eC (.str (Str.ofString " sites, ")))) (eA gStrOf (aCons (eA gLen (aCons (e2 gIx (eVar 1) (eC (.int 1))) (aNil))) (aNil)))) (eC (.str (Str.ofString " items)"))))) (sSeq (sIf (eNot (eCall c_law_same (lCons (rVar 2) (lCons (rDat (eA gLst (aCons (e2 gIx (eVar 1) (eC (.int 0))) (aCons (e2 gIx (eVar 1) (eC (.int 1))) (aCons (e2 gIx (eVar 1) (eC (.int 2))) (aCons (eA gLen (aCons (e2 gIx (eVar 1) (eC (.int 1))) (aNil))) (aCons (eVar 3) (aNil)))))))) (lNil))) (lNil))) (sRet (eC (.bl false))) (sNx)) (sRet (eA gAll (aCons (eLc (aIt (e2 gIx (eVar 1) (eC (.int 0)))) (gN 4) (eC (.bl true)) (eCall c_law_same (lCons (rDat (eMeth (Str.ofString "Scheme") (Str.ofString "site_named") (rVar 0) c_Scheme_site_named (lCons (rDat (e2 gIx (eVar 4) (eC (.int 0)))) (lNil)) lNil)) (lCons (rVar 4) (lNil))) (lNil)) [4]) (aNil))))))
def m_law_scheme_so : Mir := mirB 5 F_law_scheme_so
abbrev c_law_scheme_so : List Sl → List Sl → List D → Rs D := cFn m_law_scheme_so 2 0 [.p 0, .p 1]
def F_is_number : FS := sSeq (sIf (eOr (eNot (eChain gLe gLe (eC (.int 1)) (eA gLen (aCons (eVar 0) (aNil))) (eC (.int 13)))) (eNot (eA gAll (aCons (eLc (aIt (eVar 0)) (gN 1) (eC (.bl true)) (e2 gIn (eVar 1) (eC (.str (Str.ofString "0123456789")))) [1]) (aNil))))) (sRet (eC (.bl false))) (sNx)) (sRet (eOr (e2 gEq (eVar 0) (eC (.str (Str.ofString "0")))) (e2 gNe (e2 gIx (eVar 0) (eC (.int 0))) (eC (.str (Str.ofString "0"))))))
def m_is_number : Mir := mirB 2 F_is_number
abbrev c_is_number : List Sl → List Sl → List D → Rs D := cFn m_is_number 1 0 [.p 0]
def F_is_signed : FS := sRet (eOr (eCall c_is_number (lCons (rVar 0) (lNil)) (lNil)) (eAnd (e2 gEq (eSlice (eVar 0) (oNone) (oSome (eC (.int 1)))) (eC (.str (Str.ofString "-")))) (eAnd (e2 gNe (eVar 0) (eC (.str (Str.ofString "-0")))) (eCall c_is_number (lCons (rDat (eSlice (eVar 0) (oSome (eC (.int 1))) (oNone))) (lNil)) (lNil)))))
def m_is_signed : Mir := mirB 1 F_is_signed
abbrev c_is_signed : List Sl → List Sl → List D → Rs D := cFn m_is_signed 1 0 [.p 0]
def F_site_in : FS := sSeq (sIf (eOr (e2 gNe (eA gLen (aCons (eVar 0) (aNil))) (eC (.int 7))) (eOr (e2 gNe (e2 gIx (eVar 0) (eC (.int 0))) (eC (.str (Str.ofString "site")))) (eOr (eNot (eCall c_is_name (lCons (rDat (e2 gIx (eVar 0) (eC (.int 1)))) (lNil)) (lNil))) (eNot (eCall c_is_signed (lCons (rDat (e2 gIx (eVar 0) (eC (.int 2)))) (lNil)) (lNil)))))) (sRet (eC .non)) (sNx)) (sSeq (sIf (eNot (eA gAll (aCons (eLc (aIt (eSlice (eVar 0) (oSome (eC (.int 3))) (oNone))) (gN 1) (eC (.bl true)) (eCall c_is_number (lCons (rVar 1) (lNil)) (lNil)) [1]) (aNil)))) (sRet (eC .non)) (sNx)) (sRet (eA gTup (aCons (e2 gIx (eVar 0) (eC (.int 1))) (aStar (eLc (aIt (eSlice (eVar 0) (oSome (eC (.int 2))) (oNone))) (gN 1) (eC (.bl true)) (eA gIntOf (aCons (eVar 1) (aNil))) [1]) (aNil))))))
def m_site_in : Mir := mirB 2 F_site_in
abbrev c_site_in : List Sl → List Sl → List D → Rs D := cFn m_site_in 1 0 [.p 0]
def F_strangers_in : FS := sSeq (sIf (eOr (e2 gNe (eA gLen (aCons (eVar 0) (aNil))) (eC (.int 2))) (e2 gNe (e2 gIx (eVar 0) (eC (.int 0))) (eC (.str (Str.ofString "strangers"))))) (sRet (eC .non)) (sNx)) (sSeq (sIf (e2 gEq (e2 gIx (eVar 0) (eC (.int 1))) (eC (.str (Str.ofString "any")))) (sRet (eA gLst (aCons (eC .non) (aNil)))) (sNx)) (sRet (eIf (eCall c_is_number (lCons (rDat (e2 gIx (eVar 0) (eC (.int 1)))) (lNil)) (lNil)) (eA gLst (aCons (eA gIntOf (aCons (e2 gIx (eVar 0) (eC (.int 1))) (aNil))) (aNil))) (eC .non))))
def m_strangers_in : Mir := mirB 1 F_strangers_in
abbrev c_strangers_in : List Sl → List Sl → List D → Rs D := cFn m_strangers_in 1 0 [.p 0]
def F_scheme_parts : FS := sSeq (sParX 1 2 (xNew (eA gLst (aNil)) (xDat (eC (.int 0)) (xNil)))) (sSeq (sWhile (eAnd (e2 gLt (eVar 2) (eA gLen (aCons (eVar 0) (aNil)))) (e2 gNe (e2 gIx (eM1 gSplit (e2 gIx (eVar 0) (eVar 2)) (eC (.str (Str.ofString " ")))) (eC (.int 0))) (eC (.str (Str.ofString "items"))))) (sSeq (sSet 3 (eCall c_site_in (lCons (rDat (eM1 gSplit (e2 gIx (eVar 0) (eVar 2)) (eC (.str (Str.ofString " "))))) (lNil)) (lNil))) (sSeq (sIf (e2 gIs (eVar 3) (eC .non)) (sNever) (sNx)) (sSeq (sMut 1 gAppend (aCons (eVar 3) (aNil))) (sAug 2 (fun i j => i + j) (eC (.int 1)))))) 16) (sSeq (sIf (e2 gGe (eVar 2) (eA gLen (aCons (eVar 0) (aNil)))) (sNever) (sNx)) (sSeq (sStar 4 5 (eM1 gSplit (e2 gIx (eVar 0) (eVar 2)) (eC (.str (Str.ofString " "))))) (sSeq (sIf (eNot (eA gAll (aCons (eLc (aIt (eVar 5)) (gN 7) (eC (.bl true)) (eCall c_is_name (lCons (rVar 7) (lNil)) (lNil)) [7]) (aNil)))) (sNever) (sNx)) (sSeq (sSet 6 (eIf (e2 gLt (e2 gAdd (eVar 2) (eC (.int 1))) (eA gLen (aCons (eVar 0) (aNil)))) (eCall c_strangers_in (lCons (rDat (eM1 gSplit (e2 gIx (eVar 0) (e2 gAdd (eVar 2) (eC (.int 1)))) (eC (.str (Str.ofString " "))))) (lNil)) (lNil)) (eC .non))) (sSeq (sIf (e2 gIs (eVar 6) (eC .non)) (sNever) (sNx)) (sFrz 1 (sRet (eA gTup (aCons (eVar 1) (aCons (eVar 5) (aCons (e2 gIx (eVar 6) (eC (.int 0))) (aCons (e2 gAdd (eVar 2) (eC (.int 2))) (aNil))))))))))))))
def m_scheme_parts : Mir := mirB 8 F_scheme_parts
abbrev c_scheme_parts : List Sl → List Sl → List D → Rs D := cFn m_scheme_parts 1 0 [.p 0]
def F_read_scheme : FS := sSeq (sSet 1 (eM1 gSplit (eVar 0) (eC (.str (Str.ofString "\n"))))) (sSeq (sTgt (eCall c_scheme_parts (lCons (rVar 1) (lNil)) (lNil)) (gTupD 4 (gsCons (gN 2) (gsCons (gN 3) (gsCons (gN 4) (gsCons (gN 5) (gsNil))))))) (sSeq (sIf (e2 gLt (eVar 5) (eA gLen (aCons (eVar 1) (aNil)))) (sNever) (sNx)) (sRet (eCall (cMk (Str.ofString "Scheme") c_Scheme_dinit_3_strangers) (lCons (rVar 2) (lCons (rVar 3) (lNil))) (lCons (rVar 4) (lNil))))))
def m_read_scheme : Mir := mirB 6 F_read_scheme
abbrev c_read_scheme : List Sl → List Sl → List D → Rs D := cFn m_read_scheme 1 0 [.p 0]
abbrev c_read_scheme_0_text : List Sl → List Sl → List D → Rs D := cFn m_read_scheme 0 1 [.k 0]
def F_Scheme_deq : FS := sRet (eAnd (eA (gIsi tb_isi) (aCons (eVar 1) (aCons (eC (.cls (Str.ofString "Scheme"))) (aNil)))) (eAnd (e2 gEq (eAttr [(Str.ofString "Scheme")] (Str.ofString "parts") (rVar 0)) (eAttr [(Str.ofString "Scheme")] (Str.ofString "parts") (rVar 1))) (eAnd (e2 gEq (eAttr [(Str.ofString "Scheme")] (Str.ofString "words") (rVar 0)) (eAttr [(Str.ofString "Scheme")] (Str.ofString "words") (rVar 1))) (e2 gEq (eAttr [(Str.ofString "Scheme")] (Str.ofString "guests") (rVar 0)) (eAttr [(Str.ofString "Scheme")] (Str.ofString "guests") (rVar 1))))))
def m_Scheme_deq : Mir := mirB 2 F_Scheme_deq
abbrev c_Scheme_deq : List Sl → List Sl → List D → Rs D := cFn m_Scheme_deq 2 0 [.p 0, .p 1]
def F_law_mixed : FS := sSeq (sNew 2 (eA gLst (aNil))) (sSeq (sFor (aIt (eVar 1)) (gN 3) (sMut 2 gInsert (aCons (eCall c_law_draw (lCons (rVar 0) (lCons (rDat (e2 gAdd (eOwnLen 2) (eC (.int 1)))) (lNil))) (lNil)) (aCons (eVar 3) (aNil))))) (sFrz 2 (sRet (eVar 2))))
def m_law_mixed : Mir := mirB 4 F_law_mixed
abbrev c_law_mixed : List Sl → List Sl → List D → Rs D := cFn m_law_mixed 2 0 [.p 0, .p 1]
def F_Scheme_plain : FS := sRet (eCallV (Str.ofString "Scheme") 0 (cMk (Str.ofString "Scheme") c_Scheme_dinit_3) (lCons (rDat (eA gLst (aCons (eA gTup (aCons (eC (.str (Str.ofString "all"))) (aCons (eC (.int 1)) (aCons (eC (.int 0)) (aCons (eC (.int 1000)) (aCons (eC (.int 0)) (aCons (eC (.int 0)) (aNil)))))))) (aNil)))) (lCons (rVar 1) (lNil))))
def m_Scheme_plain : Mir := mirB 2 F_Scheme_plain
abbrev c_Scheme_plain : List Sl → List Sl → List D → Rs D := cStar m_Scheme_plain 1
def F_law : FS := sSeq (sNew 1 (eCallN m_law_source 1 (aCons (eVar 0) (aNil)))) (sSeq (sFor (aRange1 (aCons (eC (.int 3)) (aNil))) (gN 2) (sSeq (sSet 3 (eCall c_law_spec (lCons (rVar 1) (lCons (rDat (eC (.int 2))) (lCons (rDat (eC (.int 5))) (lCons (rDat (eA gLst (aCons (eC (.int 0)) (aCons (eC (.int 1)) (aCons (e2 gPow (eC (.int 10)) (eC (.int 9))) (aCons (eC .non) (aNil))))))) (lNil))))) (lNil))) (sSeq (sParX 4 5 (xDat (eCall c_law_scheme (lCons (rVar 3) (lNil)) (lNil)) (xDat (eM1 gJoin (eC (.str (Str.ofString "\n"))) (eCall c_law_scheme_lines (lCons (rVar 3) (lNil)) (lNil))) (xNil)))) (sSeq (sIf (eNot (eCall c_law_same (lCons (rDat (eA gLst (aCons (eCall c_scheme_text (lCons (rVar 4) (lNil)) (lNil)) (aCons (eCall c_scheme_text_0_scheme (lNil) (lCons (rVar 4) (lNil))) (aNil))))) (lCons (rDat (eA gLst (aCons (eVar 5) (aCons (eVar 5) (aNil))))) (lNil))) (lNil))) (sRet (eC (.bl false))) (sNx)) (sSeq (sIf (eOr (eNot (eCall c_law_scheme_so (lCons (rDat (eCall c_read_scheme (lCons (rVar 5) (lNil)) (lNil))) (lCons (rVar 3) (lNil))) (lNil))) (eEqO true (Str.ofString "Scheme") c_Scheme_deq (eCall c_read_scheme_0_text (lNil) (lCons (rVar 5) (lNil))) (eVar 4))) (sRet (eC (.bl false))) (sNx)) (sSeq (sSet 6 (eM1 gJoin (eC (.str (Str.ofString "\n"))) (eCall c_law_scheme_lines (lCons (rDat (eA gTup (aCons (e2 gIx (eVar 3) (eC (.int 0))) (aCons (eCall c_law_mixed (lCons (rVar 1) (lCons (rDat (e2 gIx (eVar 3) (eC (.int 1)))) (lNil))) (lNil)) (aCons (e2 gIx (eVar 3) (eC (.int 2))) (aNil)))))) (lNil)) (lNil)))) (sIf (eOr (eEqO true (Str.ofString "Scheme") c_Scheme_deq (eCall c_read_scheme (lCons (rVar 6) (lNil)) (lNil)) (eVar 4)) (e2 gNe (eCall c_scheme_text (lCons (rDat (eCall c_read_scheme (lCons (rVar 6) (lNil)) (lNil))) (lNil)) (lNil)) (eVar 5))) (sRet (eC (.bl false))) (sNx)))))))) (sRet (e2 gEq (eCall c_scheme_text (lCons (rDat (eCls (Str.ofString "Scheme") c_Scheme_plain (lCons (rDat (eC (.str (Str.ofString "b")))) (lCons (rDat (eC (.str (Str.ofString "a")))) (lNil))))) (lNil)) (lNil)) (eC (.str (Str.ofString "site all 1 0 1000 0 0\nitems a b\nstrangers 0"))))))
def m_law : Mir := mirB 7 F_law
end K57
end DL

set_option maxHeartbeats 4000000
namespace DL
open PySem PySem.Spec PyProof.Rows L2 ClX
/-! what the mirrors give: tools -/
theorem at5_0 (a b c d e : D) : atI [a, b, c, d, e] 0 = some a := rfl
theorem at5_1 (a b c d e : D) : atI [a, b, c, d, e] 1 = some b := rfl
theorem at5_2 (a b c d e : D) : atI [a, b, c, d, e] 2 = some c := rfl
theorem at5_3 (a b c d e : D) : atI [a, b, c, d, e] 3 = some d := rfl
theorem at5_4 (a b c d e : D) : atI [a, b, c, d, e] 4 = some e := rfl
theorem ixN5_1 : ixN 5 1 = some 1 := rfl
theorem ixN5_2 : ixN 5 2 = some 2 := rfl
theorem ixN5_3 : ixN 5 3 = some 3 := rfl
theorem ixN5_4 : ixN 5 4 = some 4 := rfl
theorem atI_nat {α : Type} (xs : List α) (i : Int) (h0 : 0 ≤ i) (h1 : i < xs.length) : ∃ x, xs[i.toNat]? = some x ∧ atI xs i = some x := by
  have : i.toNat < xs.length := by omega
  refine ⟨xs[i.toNat], by simp [this], ?_⟩
  unfold atI ixN
  rw [if_pos h0, if_pos h1]
  simp [this]
/-- what an own generator list holds -/
def mkR (ns : List Int) (k r s c : Int) : D := .lst [.lst (ns.map .int), .int k, .int r, .int s, .int c]
def Rng (d : D) : Prop := ∃ ns k r s c, d = mkR ns k r s c ∧ 0 ≤ k ∧ 0 ≤ r
namespace K57
theorem draw (ns : List Int) (k r s c : Int) (n : Int) (hk : 0 ≤ k) (hr : 0 ≤ r) (h0 : 0 < n) (h1 : n < 1073741824) :
    ∃ d k' r' s' c', m_law_draw [.own 0, .dat (.int n)] [mkR ns k r s c] = .ok (.int d) [mkR ns k' r' s' c'] ∧ 0 ≤ d ∧ d < n ∧ 0 ≤ k' ∧ 0 ≤ r' := by
  have hn : n ≠ 0 := by omega
  have hab : n.natAbs < 1073741824 := by omega
  have fm : ∀ x : Int, 0 ≤ x.fmod n ∧ x.fmod n < n := fun x => ⟨Int.fmod_nonneg_of_pos x h0, Int.fmod_lt_of_pos x h0⟩
  have big : ∀ x : Int, 0 ≤ x.fmod 2147483549 ∧ x.fmod 2147483549 < 2147483549 := fun x => ⟨Int.fmod_nonneg_of_pos x (by decide), Int.fmod_lt_of_pos x (by decide)⟩
  have fd : ∀ x : Int, 0 ≤ x → 0 ≤ x.fdiv n := fun x h => Int.fdiv_nonneg h (by omega)
  obtain ⟨A, B, e, hA, hB⟩ : ∃ A B, F_law_draw = sSeq A B ∧ (∃ x k1 r1 s1, A [.own 0, .dat (.int n), .no, .no, .no] [mkR ns k r s c] = .nx [.own 0, .dat (.int n), x, .no, .no] [mkR ns k1 r1 s1 c] ∧ 0 ≤ k1 ∧ 0 ≤ r1) ∧
      (∀ x k r s c, 0 ≤ k → 0 ≤ r → ∃ d k' r' s' c', B [.own 0, .dat (.int n), x, .no, .no] [mkR ns k r s c] = .rt (.int d) [mkR ns k' r' s' c'] ∧ 0 ≤ d ∧ d < n ∧ 0 ≤ k' ∧ 0 ≤ r') := by
    refine ⟨_, _, rfl, ?_, ?_⟩
    · by_cases c1 : r < n
      · by_cases c2 : k < ns.length
        · obtain ⟨y, _, hy⟩ := atI_nat (ns.map D.int) k hk (by simpa using c2)
          have hy' : ∃ i, y = .int i := by
            unfold atI at hy
            cases e : ixN (ns.map D.int).length k with
            | none => rw [e] at hy; cases hy
            | some j =>
              rw [e] at hy
              simp at hy
              obtain ⟨i, _, h⟩ := hy
              exact ⟨i, h.symm⟩
          obtain ⟨i, rfl⟩ := hy'
          by_cases c3 : (1000000000000000000 : Int) ≤ i
          · refine ⟨.dat (.int i), k + 1, i, (s * 40853 + i.fmod 2147483477 * 59 + (k + 1)).fmod 2147483549, ?_, by omega, by omega⟩
            simp [mkR, sIf, eAnd, e2, eOwnIx, listAt, rBind, Rs.bind, eC, Rs.ofO, at5_0, at5_1, at5_2, at5_3, gLt, eVar, eA, aCons, aNil, gLen, c1, c2, sSeq, sSet, hy, gIx, sOwnSet, ixN5_1, ixN5_2, ixN5_3, gAdd, gMul, gMod, gIntOf, eIf, gGe, gPow, c3]
          · refine ⟨.dat (.int i), k + 1, 0, (s * 40853 + i.fmod 2147483477 * 59 + (k + 1)).fmod 2147483549, ?_, by omega, by omega⟩
            simp [mkR, sIf, eAnd, e2, eOwnIx, listAt, rBind, Rs.bind, eC, Rs.ofO, at5_0, at5_1, at5_2, at5_3, gLt, eVar, eA, aCons, aNil, gLen, c1, c2, sSeq, sSet, hy, gIx, sOwnSet, ixN5_1, ixN5_2, ixN5_3, gAdd, gMul, gMod, gIntOf, eIf, gGe, gPow, c3]
        · exact ⟨.no, k, r, s, by simp [mkR, sIf, eAnd, e2, eOwnIx, listAt, rBind, Rs.bind, eC, Rs.ofO, at5_0, at5_1, at5_2, gLt, eVar, eA, aCons, aNil, gLen, c1, c2, sNx], hk, hr⟩
      · exact ⟨.no, k, r, s, by simp [mkR, sIf, eAnd, e2, eOwnIx, listAt, rBind, Rs.bind, eC, Rs.ofO, at5_0, at5_1, at5_2, gLt, eVar, eA, aCons, aNil, gLen, c1, sNx], hk, hr⟩
    · intro x k r s c hk hr
      by_cases c1 : n ≤ r
      · refine ⟨r.fmod n, k, r.fdiv n, s, c, ?_, (fm r).1, (fm r).2, hk, fd r hr⟩
        simp [mkR, sIf, e2, eOwnIx, listAt, rBind, Rs.bind, eC, Rs.ofO, at5_0, at5_1, at5_2, at5_3, gGe, eVar, eA, aCons, aNil, c1, sSeq, sSet, sOwnSet, ixN5_2, gMod, gIntOf, gFdiv, hn, hab, sRet]
      · have b1 : -18446744073709551616 < (s + (c + 1) * 7919).fmod 2147483549 := by have := big (s + (c + 1) * 7919); omega
        have b2 : (s + (c + 1) * 7919).fmod 2147483549 < 18446744073709551616 := by have := big (s + (c + 1) * 7919); omega
        obtain ⟨q, hq⟩ : ∃ q, q = (s + (c + 1) * 7919).fmod 2147483549 := ⟨_, rfl⟩
        rw [← hq] at b1 b2
        obtain ⟨t, ht⟩ : ∃ t, t = (q * q + q * 30011 + 1299827).fmod 2147483549 := ⟨_, rfl⟩
        refine ⟨(t.fdiv 61 + t.fmod 8087 * 193).fmod n, k, r, t, c + 1, ?_, (fm _).1, (fm _).2, hk, hr⟩
        simp [mkR, sIf, e2, eOwnIx, listAt, rBind, Rs.bind, eC, Rs.ofO, at5_0, at5_1, at5_2, at5_3, at5_4, gGe, eVar, eA, aCons, aNil, c1, sSeq, sSet, sOwnSet, ixN5_2, ixN5_3, ixN5_4, gMod, gIntOf, gFdiv, gAdd, gMul, hn, hab, ← hq, b1, b2, ← ht, sRet, sNx]
  obtain ⟨x, k1, r1, s1, ea, h2, h3⟩ := hA
  obtain ⟨d, k2, r2, s2, c2, eb, h4, h5, h6, h7⟩ := hB x k1 r1 s1 c h2 h3
  refine ⟨d, k2, r2, s2, c2, ?_, h4, h5, h6, h7⟩
  have : F_law_draw [.own 0, .dat (.int n), .no, .no, .no] [mkR ns k r s c] = .rt (.int d) [mkR ns k2 r2 s2 c2] := by
    rw [e]; unfold sSeq; rw [ea]; exact eb
  simp [m_law_draw, mirB, this]
  simp [mkR, keepsAll]
end K57
end DL

set_option maxHeartbeats 4000000
namespace DL
open PySem PySem.Spec PyProof.Rows L2 ClX TL
theorem seq_go {A B : FS} {rho r : List Sl} {mu m : List D} {z : Rst} (h : A rho mu = .nx r m) (h2 : B r m = z) : sSeq A B rho mu = z := by
  unfold sSeq; rw [h]; exact h2
theorem atI_mem {α : Type} {xs : List α} {i : Int} (h0 : 0 ≤ i) (h1 : i < xs.length) : ∃ x, x ∈ xs ∧ atI xs i = some x := by
  obtain ⟨x, h, h2⟩ := atI_nat xs i h0 h1
  exact ⟨x, List.mem_of_getElem? h, h2⟩
inductive All2 (P : D → D → Prop) : List D → List D → Prop
  | nil : All2 P [] []
  | cons {a b : D} {as bs : List D} : P a b → All2 P as bs → All2 P (a :: as) (b :: bs)
theorem All2.length {P : D → D → Prop} : ∀ {as bs : List D}, All2 P as bs → as.length = bs.length
  | _, _, .nil => rfl
  | _, _, .cons _ r => congrArg (· + 1) r.length
theorem All2.right {P : D → D → Prop} : ∀ {as bs : List D}, All2 P as bs → ∀ y ∈ bs, ∃ x ∈ as, P x y
  | _, _, .nil, _, h => by simp at h
  | _, _, .cons a r, y, h => by
    rcases List.mem_cons.mp h with e | e
    · subst e; exact ⟨_, List.mem_cons_self, a⟩
    · obtain ⟨x, h1, h2⟩ := r.right y e
      exact ⟨x, List.mem_cons_of_mem _ h1, h2⟩
/-- a comprehension over a generator that is drawn from -/
theorem lcL_thread {P : D → D → Prop} {i : Nat} {f : FE} {rho : List Sl} {mu : List D}
    (h : ∀ d g, Rng g → ∃ y g', Rng g' ∧ P d y ∧ f (rho.set i (.dat d)) (g :: mu) = .ok y (g' :: mu)) :
    ∀ (ds acc : List D) (g : D), Rng g → acc.length + ds.length ≤ 16777216 → ∃ ys g', Rng g' ∧ All2 P ds ys ∧ lcL (gN i) (eC (.bl true)) f ds acc rho (g :: mu) = .ok (.lst (acc ++ ys)) (g' :: mu)
  | [], acc, g, hg, _ => ⟨[], g, hg, .nil, by simp [lcL]⟩
  | d :: ds, acc, g, hg, hl => by
    obtain ⟨y, g1, h1, h2, h3⟩ := h d g hg
    simp at hl
    obtain ⟨ys, g2, h4, h5, h6⟩ := lcL_thread h ds (acc ++ [y]) g1 h1 (by simp; omega)
    refine ⟨y :: ys, g2, h4, .cons h2 h5, ?_⟩
    simp only [lcL, gN, eC, h3]
    rw [if_pos (by omega), h6]
    simp
/-- one whose body only reads -/
theorem lcL_map {i : Nat} {f : FE} {rho : List Sl} {mu : List D} {k : D → D} :
    ∀ (ds acc : List D), (∀ d ∈ ds, f (rho.set i (.dat d)) mu = .ok (k d) mu) → acc.length + ds.length ≤ 16777216 → lcL (gN i) (eC (.bl true)) f ds acc rho mu = .ok (.lst (acc ++ ds.map k)) mu
  | [], acc, _, _ => by simp [lcL]
  | d :: ds, acc, h, hl => by
    simp at hl
    simp only [lcL, gN, eC, h d List.mem_cons_self]
    rw [if_pos (by omega), lcL_map ds (acc ++ [k d]) (fun x hx => h x (List.mem_cons_of_mem _ hx)) (by simp; omega)]
    simp
theorem loop_inv {g : FG} {body : FS} (I : List D → List Sl → List D → Prop)
    (h : ∀ d ds rho mu, I (d :: ds) rho mu → ∃ rho1, g d rho = some rho1 ∧ ∃ rho' mu', body rho1 mu = .nx rho' mu' ∧ I ds rho' mu') :
    ∀ ds rho mu, I ds rho mu → ∃ rho' mu', loopL g body ds rho mu = .nx rho' mu' ∧ I [] rho' mu'
  | [], rho, mu, hi => ⟨rho, mu, rfl, hi⟩
  | d :: ds, rho, mu, hi => by
    obtain ⟨rho1, h1, rho2, mu2, h2, h3⟩ := h d ds rho mu hi
    obtain ⟨rho', mu', h4, h5⟩ := loop_inv I h ds rho2 mu2 h3
    exact ⟨rho', mu', by simp only [loopL, h1, h2, h4], h5⟩
namespace K57
theorem keep1 {g : D} (h : Rng g) : keepsAll [g] = true := by obtain ⟨_, _, _, _, _, rfl, _⟩ := h; rfl
theorem cfn_own {m : Mir} {t g g' y : D} (h : m [.own 0, .dat t] [g] = .ok y [g']) (mu : List D) : cFn m 2 0 [.p 0, .p 1] [.own 0, .dat t] [] (g :: mu) = .ok y (g' :: mu) := by
  simp [cFn, callM, srcS, ownKs, renum, putBack, h]
theorem draw_c {g : D} (hg : Rng g) {n : Int} (h0 : 0 < n) (h1 : n < 1073741824) : ∃ d g', Rng g' ∧ 0 ≤ d ∧ d < n ∧ ∀ mu, c_law_draw [.own 0, .dat (.int n)] [] (g :: mu) = .ok (.int d) (g' :: mu) := by
  obtain ⟨ns, k, r, s, c, rfl, hk, hr⟩ := hg
  obtain ⟨d, k', r', s', c', e, h2, h3, h4, h5⟩ := draw ns k r s c n hk hr h0 h1
  exact ⟨d, _, ⟨ns, k', r', s', c', rfl, h4, h5⟩, h2, h3, fun mu => cfn_own e mu⟩
theorem pick_l {g : D} (hg : Rng g) {xs : List D} (h0 : 0 < xs.length) (h1 : xs.length < 1073741824) : ∃ x g', Rng g' ∧ x ∈ xs ∧ ∀ mu, c_law_pick [.own 0, .dat (.lst xs)] [] (g :: mu) = .ok x (g' :: mu) := by
  obtain ⟨d, g', h2, h3, h4, e⟩ := draw_c hg (n := xs.length) (by omega) (by omega)
  obtain ⟨x, hx, hi⟩ := atI_mem h3 h4
  refine ⟨x, g', h2, hx, fun mu => cfn_own ?_ mu⟩
  simp [m_law_pick, mirB, F_law_pick, sRet, e2, eVar, Rs.bind, eCall, lCons, rVar, rDat, lNil, eA, aCons, aNil, gLen, Rs.ofO, rBind, gIx, e, hi, keep1 h2]
theorem pick_s {g : D} (hg : Rng g) {z : Str} (h0 : 0 < (tl z).length) (h1 : (tl z).length < 1000) : ∃ c g', Rng g' ∧ c ∈ tl z ∧ ∀ mu, c_law_pick [.own 0, .dat (.str z)] [] (g :: mu) = .ok (.str ⟨#[c]⟩) (g' :: mu) := by
  rw [← len_tl] at h0 h1
  obtain ⟨d, g', h2, h3, h4, e⟩ := draw_c hg (n := z.length) (by omega) (by omega)
  obtain ⟨x, hx, hi⟩ := atI_mem (xs := tl z) h3 (by rw [← len_tl]; exact h4)
  refine ⟨x, g', h2, hx, fun mu => cfn_own ?_ mu⟩
  have hz : z.length ≤ 16777216 := by omega
  have hi' : atI z.cps.toList d = some x := hi
  simp [m_law_pick, mirB, F_law_pick, sRet, e2, eVar, Rs.bind, eCall, lCons, rVar, rDat, lNil, eA, aCons, aNil, gLen, Rs.ofO, rBind, gIx, hz, e, hi', keep1 h2]
end K57
end DL

set_option maxHeartbeats 4000000
namespace DL
open PySem PySem.Spec PyProof.Rows L2 ClX TL
theorem tl_cut0 (z : Str) (a : Nat) (h : a ≤ (tl z).length) : tl (cutS z none (some (a : Int))) = (tl z).take a := by
  rw [← len_tl] at h
  show ((tl z).drop _).take _ = _
  rw [HT.sIx_none, HT.sIx_nat, Nat.min_eq_left h]; simp
theorem tl_cut2 (z : Str) (a b : Nat) (h : b ≤ (tl z).length) (h' : a ≤ b) : tl (cutS z (some (a : Int)) (some (b : Int))) = ((tl z).drop a).take (b - a) := by
  rw [← len_tl] at h
  show ((tl z).drop _).take _ = _
  rw [HT.sIx_nat, HT.sIx_nat, Nat.min_eq_left h, Nat.min_eq_left (by omega)]
def Nm (x : Str) : Prop := 1 ≤ (tl x).length ∧ (tl x).length ≤ 8 ∧ ∀ c ∈ tl x, 97 ≤ c ∧ c ≤ 122
abbrev abc : Str := Str.ofString "abcdefghijklmnopqrstuvwxyz"
theorem tl_abc : tl abc = (List.range 26).map (97 + ·) := by decide +kernel
theorem abc_at {i : Int} (h0 : 0 ≤ i) (h1 : i < 26) : atI abc.cps.toList i = some (97 + i.toNat) := by
  obtain ⟨x, h, e⟩ := atI_nat (tl abc) i h0 (by rw [tl_abc]; simpa using h1)
  have e' : atI abc.cps.toList i = some x := e
  rw [e', ← h, tl_abc]
  have : i.toNat < 26 := by omega
  simp [this]
theorem abc_mem {c : Nat} (h : c ∈ tl abc) : 97 ≤ c ∧ c ≤ 122 := by
  rw [tl_abc] at h
  obtain ⟨k, hk, rfl⟩ := List.mem_map.mp h
  have := List.mem_range.mp hk
  omega
theorem steps_nodup : ∀ f < 26, ∀ s ∈ [1, 3, 5, 7, 9, 11, 15, 17, 19, 21, 23, 25], ((List.range 7).map (fun k => some (97 + (f + k * s) % 26))).Nodup := by decide +kernel
namespace K57
theorem letter (z stem : Str) (a f s m : Int) (c : Nat) (v : Sl) (g l : D) (lz : z.length ≤ 16777216) (b : -18446744073709551616 < m ∧ m < 18446744073709551616) (hz : atI z.cps.toList ((f + m * s).fmod 26) = some c) :
    sSet 9 (e2 gIx (eVar 2) (e2 gMod (eA gIntOf (aCons (e2 gAdd (eVar 5) (e2 gMul (eVar 8) (eVar 6))) (aNil))) (eC (.int 26)))) [.own 0, .dat (.int 7), .dat (.str z), .dat (.str stem), .dat (.int a), .dat (.int f), .dat (.int s), .own 1, .dat (.int m), v] [g, l] =
      .nx [.own 0, .dat (.int 7), .dat (.str z), .dat (.str stem), .dat (.int a), .dat (.int f), .dat (.int s), .own 1, .dat (.int m), .dat (.str ⟨#[c]⟩)] [g, l] := by
  simp [sSet, rBind, e2, eVar, Rs.bind, eA, aCons, aNil, gMul, gAdd, gIntOf, Rs.ofO, gMod, eC, gIx, hz, b, lz]
theorem names_go {g : D} (hg : Rng g) : ∃ (xs : List Str) (g' : D), Rng g' ∧ xs.length = 7 ∧ (∀ x ∈ xs, Nm x) ∧ xs.Nodup ∧ ∀ mu, c_law_names [.own 0, .dat (.int 7)] [] (g :: mu) = .ok (.lst (xs.map .str)) (g' :: mu) := by
  -- the stem
  obtain ⟨ys, g1, hg1, hys, e1⟩ := lcL_thread (P := fun _ y => ∃ c, 97 ≤ c ∧ c ≤ 122 ∧ y = .str ⟨#[c]⟩) (i := 8) (f := eCall c_law_pick (lCons (rVar 0) (lCons (rVar 2) (lNil))) (lNil))
    (rho := [.own 0, .dat (.int 7), .dat (.str abc), .no, .no, .no, .no, .no, .no, .no]) (mu := [])
    (fun d g hg => by
      obtain ⟨c, g', h1, h2, e⟩ := pick_s hg (z := abc) (by decide +kernel) (by decide +kernel)
      exact ⟨_, g', h1, ⟨c, (abc_mem h2).1, (abc_mem h2).2, rfl⟩, by simp [eCall, lCons, rVar, lNil, Rs.bind, e]⟩) (rangeD 0 7) [] g hg (by simp [rangeD])
  obtain ⟨stem, hst, hsl, hsc⟩ : ∃ stem : Str, gJoin (.str (Str.ofString "")) [.lst ys] = some (.str stem) ∧ (tl stem).length = 7 ∧ ∀ c ∈ tl stem, 97 ≤ c ∧ c ≤ 122 := by
    have hl : ys.length = 7 := hys.length.symm
    have hr := hys.right
    match ys, hl with
    | [y0, y1, y2, y3, y4, y5, y6], _ =>
      obtain ⟨_, _, c0, a0, b0, rfl⟩ := hr y0 (by simp)
      obtain ⟨_, _, c1, a1, b1, rfl⟩ := hr y1 (by simp)
      obtain ⟨_, _, c2, a2, b2, rfl⟩ := hr y2 (by simp)
      obtain ⟨_, _, c3, a3, b3, rfl⟩ := hr y3 (by simp)
      obtain ⟨_, _, c4, a4, b4, rfl⟩ := hr y4 (by simp)
      obtain ⟨_, _, c5, a5, b5, rfl⟩ := hr y5 (by simp)
      obtain ⟨_, _, c6, a6, b6, rfl⟩ := hr y6 (by simp)
      have et : tl (Txt.join (Str.ofString "") [⟨#[c0]⟩, ⟨#[c1]⟩, ⟨#[c2]⟩, ⟨#[c3]⟩, ⟨#[c4]⟩, ⟨#[c5]⟩, ⟨#[c6]⟩]) = [c0, c1, c2, c3, c4, c5, c6] := by
        rw [join_eq, tl_join]; rfl
      refine ⟨Txt.join (Str.ofString "") [⟨#[c0]⟩, ⟨#[c1]⟩, ⟨#[c2]⟩, ⟨#[c3]⟩, ⟨#[c4]⟩, ⟨#[c5]⟩, ⟨#[c6]⟩], by simp [gJoin, strsD, Str.length, (by decide +kernel : (Str.ofString "").cps.size = 0)], by rw [et]; rfl, ?_⟩
      rw [et]
      simp only [List.mem_cons, List.not_mem_nil, or_false]
      rintro c (rfl | rfl | rfl | rfl | rfl | rfl | rfl) <;> exact ⟨by assumption, by assumption⟩
  obtain ⟨ai, g2, hg2, ha0, ha1, e2'⟩ := draw_c hg1 (n := 5) (by decide) (by decide)
  obtain ⟨fi, g3, hg3, hf0, hf1, e3⟩ := draw_c hg2 (n := 26) (by decide) (by decide)
  obtain ⟨sd, g4, hg4, hs, e4⟩ := pick_l hg3 (xs := [.int 1, .int 3, .int 5, .int 7, .int 9, .int 11, .int 15, .int 17, .int 19, .int 21, .int 23, .int 25]) (by simp) (by simp)
  obtain ⟨a, rfl⟩ := Int.eq_ofNat_of_zero_le ha0
  obtain ⟨f, rfl⟩ := Int.eq_ofNat_of_zero_le hf0
  obtain ⟨s, hs2, rfl⟩ : ∃ s : Nat, s ∈ [1, 3, 5, 7, 9, 11, 15, 17, 19, 21, 23, 25] ∧ sd = .int (s : Int) := by
    have : [D.int 1, .int 3, .int 5, .int 7, .int 9, .int 11, .int 15, .int 17, .int 19, .int 21, .int 23, .int 25] = [1, 3, 5, 7, 9, 11, 15, 17, 19, 21, 23, 25].map (fun s : Nat => D.int (s : Int)) := rfl
    rw [this] at hs
    obtain ⟨s, h1, h2⟩ := List.mem_map.mp hs
    exact ⟨s, h1, h2.symm⟩
  -- the loop
  have loop := loop_inv (g := gN 8) (body := (sSeq (sSet 9 (e2 gIx (eVar 2) (e2 gMod (eA gIntOf (aCons (e2 gAdd (eVar 5) (e2 gMul (eVar 8) (eVar 6))) (aNil))) (eC (.int 26))))) (sMut 7 gAppend (aCons (e2 gAdd (e2 gAdd (eSlice (eVar 3) (oNone) (oSome (eVar 4))) (eVar 9)) (eSlice (eVar 3) (oSome (eVar 4)) (oSome (e2 gAdd (eVar 4) (eCall c_law_draw (lCons (rVar 0) (lCons (rDat (e2 gSub (eC (.int 8)) (eVar 4))) (lNil))) (lNil)))))) (aNil)))))
    (fun ds rho mu => ∃ g xs u v, Rng g ∧ rho = [.own 0, .dat (.int 7), .dat (.str abc), .dat (.str stem), .dat (.int a), .dat (.int f), .dat (.int s), .own 1, u, v] ∧ mu = [g, .lst (xs.map .str)] ∧ (∀ x ∈ xs, Nm x) ∧
      xs.map (fun x => (tl x)[a]?) = (List.range xs.length).map (fun k => some (97 + (f + k * s) % 26)) ∧ ds = (rangeD 0 7).drop xs.length ∧ xs.length ≤ 7)
    (by
      rintro d ds rho mu ⟨g, xs, u, v, hg, rfl, rfl, hx, hm, hd, hl⟩
      have hlt : xs.length < 7 := by
        refine Nat.lt_of_le_of_ne hl fun e => ?_
        rw [e] at hd; have := congrArg List.length hd; simp [rangeD] at this
      have hd' : d = .int (xs.length : Int) ∧ ds = (rangeD 0 7).drop (xs.length + 1) := by
        rw [List.drop_eq_getElem_cons (by simpa [rangeD] using hlt)] at hd
        injection hd with q1 q2
        refine ⟨?_, q2⟩
        rw [q1]; simp [rangeD]
      obtain ⟨rfl, rfl⟩ := hd'
      obtain ⟨w, g', hg', hw0, hw1, ew⟩ := draw_c hg (n := 8 - a) (by omega) (by omega)
      obtain ⟨w, rfl⟩ := Int.eq_ofNat_of_zero_le hw0
      refine ⟨_, rfl, ?_⟩
      have m0 : (0:Int) ≤ ((f : Int) + xs.length * s).fmod 26 := Int.fmod_nonneg_of_pos _ (by decide)
      have m1 : ((f : Int) + xs.length * s).fmod 26 < 26 := Int.fmod_lt_of_pos _ (by decide)
      have mt : (((f : Int) + xs.length * s).fmod 26).toNat = (f + xs.length * s) % 26 := by
        rw [Int.fmod_eq_emod_of_nonneg _ (by decide)]
        omega
      obtain ⟨c, hc⟩ : ∃ c, c = 97 + (f + xs.length * s) % 26 := ⟨_, rfl⟩
      have hat := abc_at m0 m1
      rw [mt, ← hc] at hat
      obtain ⟨x, hxd⟩ : ∃ x, x = cutS stem none (some (a : Int)) ++ ⟨#[c]⟩ ++ cutS stem (some (a : Int)) (some ((a : Int) + w)) := ⟨_, rfl⟩
      have ht : tl x = (tl stem).take a ++ [c] ++ ((tl stem).drop a).take w := by
        rw [hxd, tl_append, tl_append, tl_cut0 _ _ (by omega)]
        have : (a : Int) + w = ((a + w : Nat) : Int) := by omega
        rw [this, tl_cut2 _ _ _ (by omega) (by omega)]
        have : a + w - a = w := by omega
        rw [this]
      have l1 : (cutS stem none (some (a : Int))).length ≤ 7 := by have := cutS_length stem none (some (a : Int)); rw [len_tl stem, hsl] at this; exact this
      have l2 : (cutS stem (some (a : Int)) (some ((a : Int) + w))).length ≤ 7 := by have := cutS_length stem (some (a : Int)) (some ((a : Int) + w)); rw [len_tl stem, hsl] at this; exact this
      have l3 : (cutS stem none (some (a : Int)) ++ (⟨#[c]⟩ : Str)).length ≤ 8 := by rw [len_tl, tl_append, List.length_append, ← len_tl]; simp [tl]; omega
      have lz : stem.length ≤ 16777216 := by rw [len_tl, hsl]; simp
      have lc : ((⟨#[c]⟩ : Str)).length = 1 := rfl
      have hsz : stem.cps.size = 7 := by simpa [tl] using hsl
      have z1 : (cutS stem none (some (a : Int))).length + 1 ≤ 16777216 := by omega
      have z2 : (cutS stem none (some (a : Int)) ++ (⟨#[c]⟩ : Str)).length + (cutS stem (some (a : Int)) (some ((a : Int) + w))).length ≤ 16777216 := by omega
      have z3 : xs.length < 16777216 := by omega
      have ew' : cFn m_law_draw 2 0 [Src.p 0, Src.p 1] [.own 0, .dat (.int ((8 : Int) - (a : Int)))] [] [g, .lst (xs.map D.str)] = .ok (.int (w : Int)) [g', .lst (xs.map D.str)] := ew [.lst (xs.map D.str)]
      refine ⟨_, _, ?_, g', xs ++ [x], .dat (.int xs.length), .dat (.str ⟨#[c]⟩), hg', rfl, rfl, ?_, ?_, ?_, ?_⟩
      · refine seq_go (r := [.own 0, .dat (.int 7), .dat (.str abc), .dat (.str stem), .dat (.int a), .dat (.int f), .dat (.int s), .own 1, .dat (.int xs.length), .dat (.str ⟨#[c]⟩)]) (m := [g, .lst (xs.map .str)]) ?_ ?_
        · have b : (-18446744073709551616 < (xs.length : Int) ∧ (xs.length : Int) < 18446744073709551616) := by omega
          have la : abc.length ≤ 16777216 := by rw [len_tl, congrArg List.length tl_abc]; simp
          exact letter abc stem a f s xs.length c v g _ la b hat
        · have h1 : ∀ r : List Sl, r[0]? = some (.own 0) → r[4]? = some (.dat (.int (a : Int))) → eCall c_law_draw (lCons (rVar 0) (lCons (rDat (e2 gSub (eC (.int 8)) (eVar 4))) (lNil))) (lNil) r [g, .lst (xs.map D.str)] = .ok (.int w) [g', .lst (xs.map D.str)] := fun r q0 q4 => by
            simp only [eCall, lCons, rVar, rDat, lNil, e2, eC, eVar, Rs.bind, Rs.ofO, gSub, q0, q4]
            exact ew'
          simp [sMut, listAt, rBind, aCons, aNil, e2, eVar, Rs.bind, eSlice, oNone, oSome, Rs.ofO, gSlice, gAdd, h1, lz, gAppend, lc, z1, z2, z3]
          rw [← hxd]
      · intro y hy
        rcases List.mem_append.mp hy with h | h
        · exact hx y h
        · have : y = x := by simpa using h
          subst this
          refine ⟨by rw [ht]; simp; omega, by rw [ht]; simp; omega, fun q hq => ?_⟩
          rw [ht] at hq
          rcases List.mem_append.mp hq with h | h
          · rcases List.mem_append.mp h with h | h
            · exact hsc _ (List.mem_of_mem_take h)
            · have : q = c := by simpa using h
              omega
          · exact hsc _ (List.mem_of_mem_drop (List.mem_of_mem_take h))
      · have : (tl x)[a]? = some c := by
          rw [ht, List.append_assoc, List.getElem?_append_right (by simp; omega)]
          have : a - (List.take a (tl stem)).length = 0 := by simp; omega
          rw [this]; rfl
        have hxa : x.cps[a]? = some c := by simpa [tl] using this
        rw [List.map_append, hm, List.length_append, List.length_singleton, List.range_succ, List.map_append]
        simp [hxa, hc]
      · simp
      · simp; omega)
    (rangeD 0 7) [.own 0, .dat (.int 7), .dat (.str abc), .dat (.str stem), .dat (.int a), .dat (.int f), .dat (.int s), .own 1, .no, .no] [g4, .lst []] ⟨g4, [], .no, .no, hg4, rfl, rfl, by simp, rfl, rfl, by simp⟩
  obtain ⟨rho', mu', el, g5, xs, u, v, hg5, rfl, rfl, hx, hm, hd, hl⟩ := loop
  have hl7 : xs.length = 7 := by
    have := congrArg List.length hd
    simp [rangeD] at this
    omega
  refine ⟨xs, g5, hg5, hl7, hx, ?_, fun mu => cfn_own ?_ mu⟩
  · have := steps_nodup f (by omega) s hs2
    rw [hl7] at hm
    rw [← hm] at this
    exact List.Pairwise.of_map (R := (· ≠ ·)) (S := (· ≠ ·)) _ (fun a b h e => h (by rw [e])) this
  · have key : F_law_names [.own 0, .dat (.int 7), .no, .no, .no, .no, .no, .no, .no, .no] [g] = .rt (.lst (xs.map .str)) [g5, .non] := by
      refine seq_go (r := [.own 0, .dat (.int 7), .dat (.str abc), .no, .no, .no, .no, .no, .no, .no]) (m := [g]) rfl ?_
      refine seq_go (r := [.own 0, .dat (.int 7), .dat (.str abc), .dat (.str stem), .no, .no, .no, .no, .no, .no]) (m := [g1]) ?_ ?_
      · simp only [sSet, eM1, eC, Rs.bind, eLc, aRange1, aCons, aNil]
        simp [wipeS]
        have : Int.toNat 7 = 7 := rfl
        simp [e1, hst, Rs.ofO, rBind]
      refine seq_go (r := [.own 0, .dat (.int 7), .dat (.str abc), .dat (.str stem), .dat (.int a), .dat (.int f), .no, .no, .no, .no]) (m := [g3]) ?_ ?_
      · simp [sParX, xDat, xNil, eCall, lCons, rVar, rDat, lNil, Rs.bind, eC, e2', e3, rBind]
      refine seq_go (r := [.own 0, .dat (.int 7), .dat (.str abc), .dat (.str stem), .dat (.int a), .dat (.int f), .dat (.int s), .own 1, .no, .no]) (m := [g4, .lst []]) ?_ ?_
      · simp [sParX, xDat, xNew, xNil, eCall, lCons, rVar, rDat, lNil, Rs.bind, eC, eA, aCons, aNil, gLst, Rs.ofO, e4, rBind]
      refine seq_go (r := [.own 0, .dat (.int 7), .dat (.str abc), .dat (.str stem), .dat (.int a), .dat (.int f), .dat (.int s), .own 1, u, v]) (m := [g5, .lst (xs.map .str)]) ?_ ?_
      · simp only [sFor, aRange1, aCons, aNil, eVar, Rs.bind]
        simp [rBind]
        exact el
      · cases u <;> cases v <;> simp [sFrz, frzS, sRet, eVar, rBind]
    simp [m_law_names, mirB, key, keep1 hg5]
end K57
end DL

set_option maxHeartbeats 4000000
namespace DL
open PySem PySem.Spec PyProof.Rows L2 ClX TL
structure Row where
  n : Str
  w : Int
  lo : Int
  hi : Int
  a : Int
  b : Int
def rowD (r : Row) : D := .tup [.str r.n, .int r.w, .int r.lo, .int r.hi, .int r.a, .int r.b]
structure Rok (r : Row) : Prop where
  w0 : -1000 ≤ r.w
  w1 : r.w ≤ 1000
  l0 : 0 ≤ r.lo
  lh : r.lo ≤ r.hi
  h1 : r.hi ≤ 1000000000000
  a0 : 0 ≤ r.a
  a1 : r.a ≤ 1000000000000
  b0 : 0 ≤ r.b
  b1 : r.b ≤ 1000000000000
namespace K57
theorem site_go {g : D} (hg : Rng g) (nm : Str) : ∃ (r : Row) (g' : D), Rng g' ∧ r.n = nm ∧ Rok r ∧ ∀ mu, c_law_site [.own 0, .dat (.str nm)] [] (g :: mu) = .ok (rowD r) (g' :: mu) := by
  obtain ⟨d, g0, hg0, hd0, hd1, e0⟩ := draw_c hg (n := 5) (by decide) (by decide)
  obtain ⟨x, g1, hg1, hx, e1⟩ := pick_l hg0 (xs := [.int 0, .int 0, .int 1, .int d, .int 999999999997]) (by simp) (by simp)
  obtain ⟨lo, rfl, l0, l1⟩ : ∃ i, x = .int i ∧ 0 ≤ i ∧ i ≤ 999999999997 := by
    simp at hx; rcases hx with rfl | rfl | rfl | rfl <;> exact ⟨_, rfl, by omega, by omega⟩
  obtain ⟨y, g2, hg2, hy, e2'⟩ := pick_l hg1 (xs := [.int 0, .int 2, .int 3, .int 5, .int 9, .int 1000000000000]) (by simp) (by simp)
  obtain ⟨p, rfl, p0, p1⟩ : ∃ i, y = .int i ∧ 0 ≤ i ∧ i ≤ 1000000000000 := by
    simp at hy; rcases hy with rfl | rfl | rfl | rfl | rfl | rfl <;> exact ⟨_, rfl, by omega, by omega⟩
  obtain ⟨z, g3, hg3, hz, e3⟩ := pick_l hg2 (xs := [.int 1, .int 1, .int 2, .int 3, .int (-1), .int (-2), .int 0, .int 1000]) (by simp) (by simp)
  obtain ⟨w, rfl, w0, w1⟩ : ∃ i, z = .int i ∧ -1000 ≤ i ∧ i ≤ 1000 := by
    simp at hz; rcases hz with rfl | rfl | rfl | rfl | rfl | rfl | rfl <;> exact ⟨_, rfl, by omega, by omega⟩
  obtain ⟨hi, hhi⟩ : ∃ hi, hi = if lo + p < 1000000000000 then lo + p else 1000000000000 := ⟨_, rfl⟩
  have hlh : lo ≤ hi ∧ hi ≤ 1000000000000 := by rw [hhi]; split <;> omega
  obtain ⟨ys, g4, hg4, hys, e4⟩ := lcL_thread (P := fun _ y => ∃ i, y = .int i ∧ 0 ≤ i ∧ i ≤ 1000000000000) (i := 6) (f := eCall c_law_pick (lCons (rVar 0) (lCons (rDat (eA gLst (aCons (eC (.int 0)) (aCons (eC (.int 0)) (aCons (eC (.int 1)) (aCons (eC (.int 2)) (aCons (e2 gPow (eC (.int 10)) (eC (.int 12))) (aNil)))))))) (lNil))) (lNil))
    (rho := [.own 0, .dat (.str nm), .dat (.int lo), .dat (.int hi), .dat (.int w), .no, .no]) (mu := [])
    (fun d g hg => by
      obtain ⟨y, g', h1, h2, e⟩ := pick_l hg (xs := [.int 0, .int 0, .int 1, .int 2, .int 1000000000000]) (by simp) (by simp)
      refine ⟨y, g', h1, ?_, ?_⟩
      · simp at h2; rcases h2 with rfl | rfl | rfl | rfl <;> exact ⟨_, rfl, by omega, by omega⟩
      · simp [eCall, lCons, rVar, rDat, lNil, Rs.bind, eA, gLst, aCons, aNil, eC, e2, gPow, Rs.ofO, e]) (rangeD 0 2) [] g3 hg3 (by simp [rangeD])
  have hl : ys.length = 2 := hys.length.symm
  have hr := hys.right
  match ys, hl with
  | [y0, y1], _ =>
    obtain ⟨_, _, a, rfl, a0, a1⟩ := hr y0 (by simp)
    obtain ⟨_, _, b, rfl, b0, b1⟩ := hr y1 (by simp)
    refine ⟨⟨nm, w, lo, hi, a, b⟩, g4, hg4, rfl, ⟨w0, w1, l0, hlh.1, hlh.2, a0, a1, b0, b1⟩, fun mu => cfn_own ?_ mu⟩
    have key : F_law_site [.own 0, .dat (.str nm), .no, .no, .no, .no, .no] [g] = .rt (rowD ⟨nm, w, lo, hi, a, b⟩) [g4] := by
      refine seq_go (r := [.own 0, .dat (.str nm), .dat (.int lo), .no, .no, .no, .no]) (m := [g1]) ?_ ?_
      · simp [sSet, rBind, eCall, lCons, rVar, rDat, lNil, Rs.bind, eA, gLst, aCons, aNil, eC, e2, gPow, gSub, Rs.ofO, e0, e1]
      refine seq_go (r := [.own 0, .dat (.str nm), .dat (.int lo), .dat (.int hi), .no, .no, .no]) (m := [g2]) ?_ ?_
      · simp [sSet, rBind, eCall, lCons, rVar, rDat, lNil, Rs.bind, eA, gLst, aCons, aNil, eC, e2, eVar, gPow, gAdd, gMin2, Rs.ofO, e2']
        rw [hhi]
      refine seq_go (r := [.own 0, .dat (.str nm), .dat (.int lo), .dat (.int hi), .dat (.int w), .no, .no]) (m := [g3]) ?_ ?_
      · simp [sSet, rBind, eCall, lCons, rVar, rDat, lNil, Rs.bind, eA, gLst, aCons, aNil, eC, e2, gSub, Rs.ofO, e3]
      refine seq_go (r := [.own 0, .dat (.str nm), .dat (.int lo), .dat (.int hi), .dat (.int w), .dat (.lst [.int a, .int b]), .no]) (m := [g4]) ?_ ?_
      · simp only [sSet, eLc, aRange1, aCons, aNil, Rs.bind, eC]
        simp [wipeS]
        rw [e4]
        simp [rBind]
      · have q0 : atI [D.int a, .int b] 0 = some (.int a) := rfl
        have q1 : atI [D.int a, .int b] 1 = some (.int b) := rfl
        simp [sRet, eA, gTup, aCons, aNil, eVar, e2, eC, gIx, Rs.bind, Rs.ofO, q0, q1, rBind, rowD]
    simp [m_law_site, mirB, key, keep1 hg4]
end K57
end DL

set_option maxHeartbeats 4000000
namespace DL
open PySem PySem.Spec PyProof.Rows L2 ClX TL
theorem lcL_threadM {P : D → D → Prop} {i : Nat} {f : FE} {rho : List Sl} {mu : List D} :
    ∀ (ds acc : List D) (g : D), (∀ d ∈ ds, ∀ g, Rng g → ∃ y g', Rng g' ∧ P d y ∧ f (rho.set i (.dat d)) (g :: mu) = .ok y (g' :: mu)) → Rng g → acc.length + ds.length ≤ 16777216 → ∃ ys g', Rng g' ∧ All2 P ds ys ∧ lcL (gN i) (eC (.bl true)) f ds acc rho (g :: mu) = .ok (.lst (acc ++ ys)) (g' :: mu)
  | [], acc, g, _, hg, _ => ⟨[], g, hg, .nil, by simp [lcL]⟩
  | d :: ds, acc, g, h, hg, hl => by
    obtain ⟨y, g1, h1, h2, h3⟩ := h d List.mem_cons_self g hg
    simp at hl
    obtain ⟨ys, g2, h4, h5, h6⟩ := lcL_threadM ds (acc ++ [y]) g1 (fun d hd => h d (List.mem_cons_of_mem _ hd)) h1 (by simp; omega)
    refine ⟨y :: ys, g2, h4, .cons h2 h5, ?_⟩
    simp only [lcL, gN, eC, h3]
    rw [if_pos (by omega), h6]
    simp
theorem cutD_take {α : Type} (xs : List α) (n : Nat) (h : n ≤ xs.length) : cutD xs none (some (n : Int)) = xs.take n := by
  unfold cutD; rw [HT.sIx_none, HT.sIx_nat, Nat.min_eq_left h]; simp
theorem cutD_mid {α : Type} (xs : List α) (a b : Nat) (h : b ≤ xs.length) (h' : a ≤ b) : cutD xs (some (a : Int)) (some (b : Int)) = (xs.drop a).take (b - a) := by
  unfold cutD; rw [HT.sIx_nat, HT.sIx_nat, Nat.min_eq_left h, Nat.min_eq_left (by omega)]
theorem strs_back : ∀ ws : List Str, strsD (ws.map .str) = some ws
  | [] => rfl
  | w :: ws => by show (strsD (ws.map .str)).map (w :: ·) = _; rw [strs_back ws]; rfl
theorem rows_of {xs : List Str} : ∀ {ys : List D}, All2 (fun d y => ∀ nm, d = .str nm → ∃ r, r.n = nm ∧ Rok r ∧ y = rowD r) (xs.map .str) ys → ∃ rs : List Row, ys = rs.map rowD ∧ rs.map Row.n = xs ∧ ∀ r ∈ rs, Rok r := by
  induction xs with
  | nil => intro ys h; cases h; exact ⟨[], rfl, rfl, by simp⟩
  | cons x xs ih =>
    intro ys h
    cases h with
    | cons a r =>
      obtain ⟨q, h1, h2, rfl⟩ := a x rfl
      obtain ⟨rs, rfl, h3, h4⟩ := ih r
      refine ⟨q :: rs, rfl, by simp [h1, h3], fun r hr => ?_⟩
      rcases List.mem_cons.mp hr with e | e
      · rw [e]; exact h2
      · exact h4 r e
/-- a plan of the law -/
structure Plan (rs : List Row) (ws : List Str) (gu : D) : Prop where
  r0 : 1 ≤ rs.length
  r1 : rs.length ≤ 2
  rok : ∀ r ∈ rs, Rok r
  rnm : ∀ r ∈ rs, Nm r.n
  rnd : (rs.map Row.n).Nodup
  w0 : 2 ≤ ws.length
  w1 : ws.length ≤ 5
  wnm : ∀ w ∈ ws, Nm w
  wnd : ws.Nodup
  srt : sortS ws = ws
  g : gu = .non ∨ ∃ i : Int, gu = .int i ∧ 0 ≤ i ∧ i ≤ 1000000000
def planD (rs : List Row) (ws : List Str) (gu : D) : D := .tup [.lst (rs.map rowD), .lst (ws.map .str), gu]
theorem sort_idem (l : List Str) : sortS (sortS l) = sortS l := sorted_unique ((sortS_perm _)) (sortS_sorted _) (sortS_sorted _)
namespace K57
theorem spec_go {g : D} (hg : Rng g) : ∃ (rs : List Row) (ws : List Str) (gu g' : D), Rng g' ∧ Plan rs ws gu ∧
    c_law_spec [.own 0, .dat (.int 2), .dat (.int 5), .dat (.lst [.int 0, .int 1, .int 1000000000, .non])] [] [g] = .ok (planD rs ws gu) [g'] := by
  obtain ⟨xs, g1, hg1, hl, hx, hnd, e1⟩ := names_go hg
  obtain ⟨d, g2, hg2, hd0, hd1, e2'⟩ := draw_c hg1 (n := 2) (by decide) (by decide)
  obtain ⟨d, rfl⟩ := Int.eq_ofNat_of_zero_le hd0
  obtain ⟨ys, g3, hg3, hys, e3⟩ := lcL_threadM (P := fun d y => ∀ nm, d = .str nm → ∃ r, r.n = nm ∧ Rok r ∧ y = rowD r) (i := 7) (f := eCall c_law_site (lCons (rVar 0) (lCons (rVar 7) (lNil))) (lNil))
    (rho := [.own 0, .dat (.int 2), .dat (.int 5), .dat (.lst [.int 0, .int 1, .int 1000000000, .non]), .dat (.lst (xs.map .str)), .no, .no, .no]) (mu := []) ((xs.take (1 + d)).map .str) [] g2
    (fun y hy g hg => by
      obtain ⟨nm, _, rfl⟩ := List.mem_map.mp hy
      obtain ⟨r, g', h1, h2, h3, e⟩ := site_go hg nm
      exact ⟨_, g', h1, fun nm' q => ⟨r, by rw [h2]; injection q, h3, rfl⟩, by simp [eCall, lCons, rVar, lNil, Rs.bind, e]⟩) hg2 (by simp; omega)
  obtain ⟨rs, rfl, hrn, hrk⟩ := rows_of hys
  obtain ⟨fd, g4, hg4, hf, e4⟩ := pick_l hg3 (xs := [.int 0, .int 2, .int 2]) (by simp) (by simp)
  obtain ⟨f, hf2, rfl⟩ : ∃ f : Nat, f ≤ 2 ∧ fd = .int (f : Int) := by
    simp at hf; rcases hf with rfl | rfl
    · exact ⟨0, by omega, rfl⟩
    · exact ⟨2, by omega, rfl⟩
  obtain ⟨q, g5, hg5, hq0, hq1, e5⟩ := draw_c hg4 (n := 4) (by decide) (by decide)
  obtain ⟨q, rfl⟩ := Int.eq_ofNat_of_zero_le hq0
  obtain ⟨gu, g6, hg6, hgu, e6⟩ := pick_l hg5 (xs := [.int 0, .int 1, .int 1000000000, .non]) (by simp) (by simp)
  obtain ⟨ws, hws⟩ : ∃ ws, ws = (xs.drop f).take (2 + q) := ⟨_, rfl⟩
  have hsub : ws.Sublist xs := by rw [hws]; exact (List.take_sublist _ _).trans (List.drop_sublist _ _)
  have hwl : ws.length = 2 + q := by rw [hws]; simp; omega
  have hpm := sortS_perm ws
  have hlr : rs.length = 1 + d := by have := congrArg List.length hrn; simp at this; omega
  refine ⟨rs, sortS ws, gu, g6, hg6, ⟨by omega, by omega, hrk, fun r hr => ?_, ?_, by rw [hpm.length_eq]; omega, by rw [hpm.length_eq]; omega, fun w hw => hx w (hsub.subset (hpm.mem_iff.mp hw)), hpm.nodup_iff.mpr (hnd.sublist hsub), sort_idem ws, ?_⟩, ?_⟩
  · have : r.n ∈ xs.take (1 + d) := by rw [← hrn]; exact List.mem_map_of_mem hr
    exact hx _ (List.mem_of_mem_take this)
  · rw [hrn]; exact hnd.sublist (List.take_sublist _ _)
  · simp at hgu; rcases hgu with rfl | rfl | rfl | rfl
    · exact .inr ⟨_, rfl, by omega, by omega⟩
    · exact .inr ⟨_, rfl, by omega, by omega⟩
    · exact .inr ⟨_, rfl, by omega, by omega⟩
    · exact .inl rfl
  · have key : F_law_spec [.own 0, .dat (.int 2), .dat (.int 5), .dat (.lst [.int 0, .int 1, .int 1000000000, .non]), .no, .no, .no, .no] [g] = .rt (planD rs (sortS ws) gu) [g6] := by
      refine seq_go (r := [.own 0, .dat (.int 2), .dat (.int 5), .dat (.lst [.int 0, .int 1, .int 1000000000, .non]), .dat (.lst (xs.map .str)), .no, .no, .no]) (m := [g1]) ?_ ?_
      · simp [sSet, rBind, eCall, lCons, rVar, rDat, lNil, Rs.bind, eC, e1]
      refine seq_go (r := [.own 0, .dat (.int 2), .dat (.int 5), .dat (.lst [.int 0, .int 1, .int 1000000000, .non]), .dat (.lst (xs.map .str)), .dat (.lst (rs.map rowD)), .no, .no]) (m := [g3]) ?_ ?_
      · have c1 : cutD (xs.map D.str) none (some (1 + (d : Int))) = (xs.take (1 + d)).map .str := by
          have : (1 + (d : Int)) = ((1 + d : Nat) : Int) := by omega
          rw [this, cutD_take _ _ (by simp; omega), List.map_take]
        simp only [sSet, eLc, aIt, eSlice, eVar, oNone, oSome, e2, eC, eCall, lCons, rVar, rDat, lNil, Rs.bind]
        simp only [List.getElem?_cons_zero, List.getElem?_cons_succ, Rs.bind, e2', gAdd, Rs.ofO, gSlice, c1, iterD, itemsD]
        have : wipeS [Sl.own 0, .dat (.int 2), .dat (.int 5), .dat (.lst [.int 0, .int 1, .int 1000000000, .non]), .dat (.lst (xs.map .str)), .no, .no, .no] [7] = [Sl.own 0, .dat (.int 2), .dat (.int 5), .dat (.lst [.int 0, .int 1, .int 1000000000, .non]), .dat (.lst (xs.map .str)), .no, .no, .no] := rfl
        rw [this, e3]
        rfl
      refine seq_go (r := [.own 0, .dat (.int 2), .dat (.int 5), .dat (.lst [.int 0, .int 1, .int 1000000000, .non]), .dat (.lst (xs.map .str)), .dat (.lst (rs.map rowD)), .dat (.int f), .no]) (m := [g4]) ?_ ?_
      · simp [sSet, rBind, eCall, lCons, rVar, rDat, lNil, Rs.bind, eA, gLst, aCons, aNil, eC, Rs.ofO, e4]
      · have c2 : cutD (xs.map D.str) (some (f : Int)) (some ((f : Int) + 2 + q)) = ws.map .str := by
          have : ((f : Int) + 2 + q) = ((f + 2 + q : Nat) : Int) := by omega
          rw [this, cutD_mid _ _ _ (by simp; omega) (by omega), hws, List.map_take, List.map_drop]
          congr 1; omega
        have c3 : gSortedS [.lst (ws.map .str)] = some (.lst ((sortS ws).map .str)) := by
          unfold gSortedS
          simp only [List.length_map]
          rw [if_pos (by omega), strs_back]; rfl
        simp [sRet, eA, gTup, aCons, aNil, eVar, e2, eC, eSlice, oSome, gAdd, gSub, eCall, lCons, rVar, rDat, lNil, Rs.bind, Rs.ofO, gSlice, e5, e6, c2, c3, rBind, planD]
    have key2 : m_law_spec [.own 0, .dat (.int 2), .dat (.int 5), .dat (.lst [.int 0, .int 1, .int 1000000000, .non])] [g] = .ok (planD rs (sortS ws) gu) [g6] := by simp [m_law_spec, mirB, key, keep1 hg6]
    simp [c_law_spec, cFn, callM, srcS, ownKs, renum, putBack, key2]
end K57
end DL

set_option maxHeartbeats 4000000
namespace DL
open PySem PySem.Spec PyProof.Rows L2 ClX TL
/-- the signs of a text are signs -/
def Sk (x : Str) : Prop := ∀ c ∈ tl x, c < 1114112
theorem Sk.ok {x : Str} (h : Sk x) : PyData.strOk x = true := by
  unfold PyData.strOk
  rw [Array.all_eq_true_iff_forall_mem]
  intro c hc
  have := h c (by show c ∈ x.cps.toList; simpa using hc)
  simpa using this
theorem Nm.sk {x : Str} (h : Nm x) : Sk x := fun c hc => by have := h.2.2 c hc; omega
theorem shs {x : Str} (h : Sk x) : SeqAt.shaped (.str x) = true := by simp [SeqAt.shaped, PyData.canLay0, h.ok, PyData.depth]
theorem eqs {x y : Str} (h : Sk x) (h' : Sk y) : gEq (.str x) (.str y) = some (.bl (decide (x = y))) := by
  simp [gEq, toPy, shs h, shs h', PyData.eqv]
  by_cases e : x = y <;> simp [e]
theorem nes {x y : Str} (h : Sk x) (h' : Sk y) : gNe (.str x) (.str y) = some (.bl (!decide (x = y))) := by
  simp [gNe, toPy, shs h, shs h', PyData.eqv]
  by_cases e : x = y <;> simp [e]
theorem nei (i j : Int) : gNe (.int i) (.int j) = some (.bl (!decide (i = j))) := by
  have s : ∀ k : Int, SeqAt.shaped (.int k) = true := fun k => by simp [SeqAt.shaped, PyData.canLay0, PyData.depth]
  simp [gNe, toPy, s, PyData.eqv]
  by_cases e : i = j <;> simp [e]
theorem lays : ∀ {xs : List Str}, (∀ x ∈ xs, Sk x) → PyData.canLayAll0 (xs.map .str) = true
  | [], _ => by simp [PyData.canLayAll0]
  | x :: xs, h => by
    have h1 := h x List.mem_cons_self
    simp [PyData.canLayAll0, PyData.canLay0, h1.ok, lays fun y hy => h y (List.mem_cons_of_mem _ hy)]
theorem pys : ∀ xs : List Str, toPyL (xs.map .str) = some (xs.map .str)
  | [] => by simp [toPyL]
  | x :: xs => by simp [toPyL, toPy, pys xs]
theorem ins {x : Str} {xs : List Str} (h : Sk x) (hs : ∀ y ∈ xs, Sk y) : gIn (.str x) (.lst (xs.map .str)) = some (.bl (decide (x ∈ xs))) := by
  simp [gIn, inD, itemsD, toPy, pys, shs h, lays hs]
  have : ∀ q : Str, PyData.eqv (.str q) (.str x) = decide (q = x) := fun q => by
    simp [PyData.eqv]
    by_cases e : q = x <;> simp [e]
  rw [Bool.eq_iff_iff]
  simp [this, List.any_eq_true]
theorem in1 (c : Nat) (z : Str) : gIn (.str ⟨#[c]⟩) (.str z) = some (.bl (decide (c ∈ tl z))) := by
  simp only [gIn, inD]
  rw [PySem.StrLaws.found_one z c]; rfl
theorem bls_const : ∀ n : Nat, blsD (List.replicate n (.bl true)) = some (List.replicate n true)
  | 0 => rfl
  | n + 1 => by show (blsD (List.replicate n (.bl true))).map (true :: ·) = _; rw [bls_const n]; rfl
theorem all_const {α : Type} (ds : List α) : gAll [.lst (ds.map fun _ => .bl true)] = some (.bl true) := by
  have : ds.map (fun _ => D.bl true) = List.replicate ds.length (.bl true) := by simp [List.map_const']
  rw [this]
  simp [gAll, bls_const]
/-- all of a list's tests answer True -/
theorem all_true {it : FA} {i : Nat} {f : FE} {vs : List Nat} {rho : List Sl} {mu : List D} {ds : List D} (hi : it rho mu = .ok ds mu) (h : ∀ d ∈ ds, f ((wipeS rho vs).set i (.dat d)) mu = .ok (.bl true) mu) (hl : ds.length ≤ 16777216) :
    eA gAll (aCons (eLc it (gN i) (eC (.bl true)) f vs) aNil) rho mu = .ok (.bl true) mu := by
  simp only [eA, aCons, aNil, eLc, hi, Rs.bind]
  rw [lcL_map (k := fun _ => .bl true) ds [] h (by simp; exact hl)]
  simp [Rs.bind, all_const, Rs.ofO]
theorem lc_eq {it : FA} {i : Nat} {f : FE} {vs : List Nat} {rho : List Sl} {mu : List D} {ds : List D} {k : D → D} (hi : it rho mu = .ok ds mu) (h : ∀ d ∈ ds, f ((wipeS rho vs).set i (.dat d)) mu = .ok (k d) mu) (hl : ds.length ≤ 16777216) :
    eLc it (gN i) (eC (.bl true)) f vs rho mu = .ok (.lst (ds.map k)) mu := by
  simp only [eLc, hi, Rs.bind]
  rw [lcL_map (k := k) ds [] h (by simp; exact hl)]
  simp
namespace K57
theorem cf1 {m : Mir} {a y : D} {m' : List D} (h : m [.dat a] [] = .ok y m') (mu : List D) : cFn m 1 0 [.p 0] [.dat a] [] mu = .ok y mu := by
  simp [cFn, callM, srcS, ownKs, renum, putBack, h]
theorem cf2 {m : Mir} {a b y : D} {m' : List D} (h : m [.dat a, .dat b] [] = .ok y m') (mu : List D) : cFn m 2 0 [.p 0, .p 1] [.dat a, .dat b] [] mu = .ok y mu := by
  simp [cFn, callM, srcS, ownKs, renum, putBack, h]
theorem is_name_ok {x : Str} (h : Nm x) (mu : List D) : c_is_name [.dat (.str x)] [] mu = .ok (.bl true) mu := by
  refine cf1 (m' := []) ?_ mu
  have hl : x.length = (tl x).length := len_tl x
  have l1 := h.1
  have l2 := h.2.1
  have e1 : eChain gLe gLe (eC (.int 1)) (eA gLen (aCons (eVar 0) (aNil))) (eC (.int 8)) [.dat (.str x), .no] [] = .ok (.bl true) [] := by
    have a : x.length ≤ 16777216 := by omega
    have b : (1 : Int) ≤ x.length := by omega
    have c : (x.length : Int) ≤ 8 := by omega
    simp [eChain, eC, eA, aCons, aNil, eVar, Rs.bind, gLen, Rs.ofO, gLe, a, b, c]
  have e2' : eA gAll (aCons (eLc (aIt (eVar 0)) (gN 1) (eC (.bl true)) (e2 gIn (eVar 1) (eC (.str (Str.ofString "abcdefghijklmnopqrstuvwxyz")))) [1]) (aNil)) [.dat (.str x), .no] [] = .ok (.bl true) [] := by
    refine all_true (ds := signsD x) (by simp [aIt, eVar, Rs.bind, iterD, Rs.ofO]) (fun d hd => ?_) (by simp [signsD, tl] at l2 ⊢; omega)
    obtain ⟨c, hc, rfl⟩ := List.mem_map.mp hd
    have hb := h.2.2 c hc
    have : c ∈ tl abc := by rw [tl_abc]; exact List.mem_map.mpr ⟨c - 97, List.mem_range.mpr (by omega), by omega⟩
    have hin := in1 c abc
    rw [decide_eq_true this] at hin
    show (match gIn (.str ⟨#[c]⟩) (.str abc) with | some a => Rs.ok a [] | none => Rs.stuck) = _
    rw [hin]
  have key : F_is_name [.dat (.str x), .no] [] = .rt (.bl true) [] := by
    unfold F_is_name sRet eAnd
    rw [e1]
    simp only [Rs.bind]
    rw [e2']; rfl
  simp [m_is_name, mirB, key, keepsAll]
theorem is_amount_ok {i : Int} (h0 : 0 ≤ i) (h1 : i ≤ 1000000000000) (mu : List D) : c_is_amount [.dat (.int i)] [] mu = .ok (.bl true) mu := by
  refine cf1 (m' := []) ?_ mu
  simp [m_is_amount, mirB, F_is_amount, sRet, eChain, eC, eVar, Rs.bind, gLe, h0, h1, rBind, keepsAll]
theorem is_site_ok {r : Row} (hn : Nm r.n) (h : Rok r) (mu : List D) : c_is_site [.dat (rowD r)] [] mu = .ok (.bl true) mu := by
  refine cf1 (m' := []) ?_ mu
  have a0 : atI [D.str r.n, .int r.w, .int r.lo, .int r.hi, .int r.a, .int r.b] 0 = some (.str r.n) := rfl
  have key : F_is_site [.dat (rowD r), .no, .no, .no, .no, .no, .no] [] = .rt (.bl true) [] := by
    refine seq_go (r := [.dat (rowD r), .no, .no, .no, .no, .no, .no]) (m := []) ?_ ?_
    · have n6 : gNe (.int 6) (.int 6) = some (.bl false) := by rw [nei]; rfl
      simp [sIf, eOr, eNot, e1, e2, eA, aCons, aNil, eVar, eC, eCall, lCons, rDat, lNil, Rs.bind, Rs.ofO, gLen, rowD, n6, gIx, a0, is_name_ok hn, gNot, rBind, sNx]
    refine seq_go (r := [.dat (rowD r), .dat (.str r.n), .dat (.int r.w), .dat (.int r.lo), .dat (.int r.hi), .dat (.int r.a), .dat (.int r.b)]) (m := []) ?_ ?_
    · simp [sTgt, eVar, rBind, rowD, gTupD, gsCons, gsNil, gN]
    refine seq_go (r := [.dat (rowD r), .dat (.str r.n), .dat (.int r.w), .dat (.int r.lo), .dat (.int r.hi), .dat (.int r.a), .dat (.int r.b)]) (m := []) ?_ ?_
    · simp [sIf, eOr, eNot, e1, eChain, eC, eVar, eCall, lCons, rVar, lNil, Rs.bind, Rs.ofO, gNeg, gLe, h.w0, h.w1, is_amount_ok h.a0 h.a1, is_amount_ok h.b0 h.b1, gNot, rBind, sNx]
    · have q1 := h.l0
      have q2 := h.lh
      have q3 := h.h1
      simp [sRet, eAnd, e2, eVar, eCall, lCons, rVar, lNil, Rs.bind, Rs.ofO, gLe, is_amount_ok q1 (by omega), is_amount_ok (show 0 ≤ r.hi by omega) q3, h.lh, rBind]
  simp [m_is_site, mirB, key, keepsAll]
theorem enum_cons (n : Nat) (d : D) (ds : List D) : enumD n (d :: ds) = .tup [.int (n : Nat), d] :: enumD (n + 1) ds := rfl
theorem atI_pre {α : Type} (pre : List α) (x : α) (post : List α) : atI (pre ++ x :: post) (pre.length : Int) = some x := by
  unfold atI ixN
  rw [if_pos (by omega), if_pos (by simp; omega)]
  simp
theorem cut_pre {α : Type} (pre post : List α) : cutD (pre ++ post) none (some (pre.length : Int)) = pre := by
  rw [cutD_take _ _ (by simp)]; simp
theorem repeated_ok {pre post : List Str} {x : Str} (hk : ∀ y ∈ pre, Sk y) (hx : Sk x) (hn : x ∉ pre) (mu : List D) : c_repeated [.dat (.lst ((pre ++ x :: post).map .str)), .dat (.int (pre.length : Int))] [] mu = .ok (.bl false) mu := by
  refine cf2 (m' := []) ?_ mu
  have e1 : atI ((pre ++ x :: post).map D.str) (pre.length : Int) = some (.str x) := by
    rw [List.map_append, List.map_cons]
    have := atI_pre (pre.map D.str) (.str x) (post.map .str)
    rwa [List.length_map] at this
  have e2' : cutD ((pre ++ x :: post).map D.str) none (some (pre.length : Int)) = pre.map .str := by
    rw [List.map_append]
    have := cut_pre (pre.map D.str) ((x :: post).map .str)
    rwa [List.length_map] at this
  have e3 := ins hx hk
  rw [decide_eq_false hn] at e3
  generalize (pre ++ x :: post).map D.str = L at *
  simp [m_repeated, mirB, F_repeated, sRet, e2, eSlice, eVar, oNone, oSome, Rs.bind, Rs.ofO, gIx, e1, gSlice, e2', e3, rBind, keepsAll]
end K57
end DL

set_option maxHeartbeats 4000000
namespace DL
open PySem PySem.Spec PyProof.Rows L2 ClX TL
abbrev sS : Str := Str.ofString "Scheme"
def schF (rs : List Row) (ws : List Str) (gu : D) : List (Str × D) := [(Str.ofString "parts", .lst (rs.map rowD)), (Str.ofString "words", .lst (ws.map .str)), (Str.ofString "guests", gu)]
def schD (rs : List Row) (ws : List Str) (gu : D) : D := .obj sS (schF rs ws gu)
namespace K57
theorem rows_loop {rs : List Row} (ws : List Str) (gu : D) (hk : ∀ r ∈ rs, Rok r) (hn : ∀ r ∈ rs, Nm r.n) (nd : (rs.map Row.n).Nodup) (hl : rs.length ≤ 16777216) : ∃ u v, sFor (aEnumA (aCons (eVar 1) (aNil))) (gTupD 2 (gsCons (gN 4) (gsCons (gN 5) (gsNil)))) (sIf (eOr (eNot (eCall c_is_site (lCons (rVar 5) (lNil)) (lNil))) (e2 gIn (e2 gIx (eVar 5) (eC (.int 0))) (eLc (aIt (eSlice (eVar 1) (oNone) (oSome (eVar 4)))) (gN 7) (eC (.bl true)) (e2 gIx (eVar 7) (eC (.int 0))) [7]))) (sNever) (sNx))
    [.own 0, .dat (.lst (rs.map rowD)), .dat (.lst (ws.map .str)), .dat gu, .no, .no, .no, .no] [.obj sS []] = .nx [.own 0, .dat (.lst (rs.map rowD)), .dat (.lst (ws.map .str)), .dat gu, u, v, .no, .no] [.obj sS []] := by
  obtain ⟨rho', mu', e, pre, post, u, v, h1, h2, rfl, rfl⟩ := loop_inv (g := gTupD 2 (gsCons (gN 4) (gsCons (gN 5) (gsNil)))) (body := (sIf (eOr (eNot (eCall c_is_site (lCons (rVar 5) (lNil)) (lNil))) (e2 gIn (e2 gIx (eVar 5) (eC (.int 0))) (eLc (aIt (eSlice (eVar 1) (oNone) (oSome (eVar 4)))) (gN 7) (eC (.bl true)) (e2 gIx (eVar 7) (eC (.int 0))) [7]))) (sNever) (sNx)))
    (fun ds rho mu => ∃ pre post u v, rs = pre ++ post ∧ ds = enumD pre.length (post.map rowD) ∧ rho = [.own 0, .dat (.lst (rs.map rowD)), .dat (.lst (ws.map .str)), .dat gu, u, v, .no, .no] ∧ mu = [.obj sS []])
    (by
      rintro d ds rho mu ⟨pre, post, u, v, h1, h2, rfl, rfl⟩
      cases post with
      | nil => simp [enumD] at h2
      | cons r post =>
        rw [List.map_cons, enum_cons] at h2
        injection h2 with h2 h3
        subst h2; subst h3
        have hr : r ∈ rs := by rw [h1]; simp
        refine ⟨[.own 0, .dat (.lst (rs.map rowD)), .dat (.lst (ws.map .str)), .dat gu, .dat (.int pre.length), .dat (rowD r), .no, .no], by simp [gTupD, gsCons, gsNil, gN], [.own 0, .dat (.lst (rs.map rowD)), .dat (.lst (ws.map .str)), .dat gu, .dat (.int pre.length), .dat (rowD r), .no, .no], [.obj sS []], ?_, pre ++ [r], post, _, _, by rw [h1]; simp, by simp, rfl, rfl⟩
        have e1 : cutD (rs.map rowD) none (some (pre.length : Int)) = pre.map rowD := by
          rw [h1, List.map_append]
          have := cut_pre (pre.map rowD) ((r :: post).map rowD)
          rwa [List.length_map] at this
        have e2' : gIn (.str r.n) (.lst ((pre.map Row.n).map .str)) = some (.bl false) := by
          rw [ins (hn r hr).sk (fun y hy => by obtain ⟨q, hq, rfl⟩ := List.mem_map.mp hy; exact (hn q (by rw [h1]; simp [hq])).sk)]
          have : r.n ∉ pre.map Row.n := by
            rw [h1, List.map_append, List.map_cons] at nd
            have := (List.nodup_append.mp nd).2.2
            intro hm
            exact this _ hm _ List.mem_cons_self rfl
          rw [decide_eq_false this]
        have a0 : ∀ q : Row, atI [D.str q.n, .int q.w, .int q.lo, .int q.hi, .int q.a, .int q.b] 0 = some (.str q.n) := fun q => rfl
        generalize hL : rs.map rowD = L at *
        have e3 : eLc (aIt (eSlice (eVar 1) (oNone) (oSome (eVar 4)))) (gN 7) (eC (.bl true)) (e2 gIx (eVar 7) (eC (.int 0))) [7] [.own 0, .dat (.lst L), .dat (.lst (ws.map .str)), .dat gu, .dat (.int pre.length), .dat (rowD r), .no, .no] [.obj sS []] = .ok (.lst ((pre.map Row.n).map .str)) [.obj sS []] := by
          have := lc_eq (it := aIt (eSlice (eVar 1) (oNone) (oSome (eVar 4)))) (i := 7) (f := e2 gIx (eVar 7) (eC (.int 0))) (vs := [7]) (rho := [.own 0, .dat (.lst L), .dat (.lst (ws.map .str)), .dat gu, .dat (.int pre.length), .dat (rowD r), .no, .no]) (mu := [.obj sS []]) (ds := pre.map rowD) (k := fun d => match d with | .tup (x :: _) => x | _ => .non)
            (by simp [aIt, eSlice, eVar, oNone, oSome, Rs.bind, gSlice, Rs.ofO, e1, iterD, itemsD])
            (fun d hd => by
              obtain ⟨q, hq, rfl⟩ := List.mem_map.mp hd
              simp [wipeS, e2, eVar, eC, Rs.bind, gIx, rowD, a0, Rs.ofO]) (by simp; have := congrArg List.length h1; simp at this; omega)
          rw [this]
          simp [rowD, Function.comp_def]
        have gx : gIx (rowD r) (.int 0) = some (.str r.n) := rfl
        simp only [sIf, eOr, eNot, DL.e1, eCall, lCons, rVar, lNil, Rs.bind, List.getElem?_cons_succ, List.getElem?_cons_zero, is_site_ok (hn r hr) (hk r hr), gNot, Rs.ofO, e2, Bool.not_true, e3]
        simp [eVar, eC, Rs.bind, gx, Rs.ofO, rBind, sNx]
        rw [e3]
        simp only [e2'])
    (enumD 0 (rs.map rowD)) [.own 0, .dat (.lst (rs.map rowD)), .dat (.lst (ws.map .str)), .dat gu, .no, .no, .no, .no] [.obj sS []] ⟨[], rs, .no, .no, rfl, rfl, rfl, rfl⟩
  refine ⟨u, v, ?_⟩
  simp only [sFor, aEnumA, aCons, aNil, eVar, Rs.bind, itemsD, List.getElem?_cons_succ, List.getElem?_cons_zero, rBind]
  exact e
theorem words_loop {ws : List Str} (rs : List Row) (gu : D) (u v : Sl) (hn : ∀ w ∈ ws, Nm w) (nd : ws.Nodup) (hl : ws.length ≤ 16777216) : ∃ u' w', sFor (aEnumA (aCons (eVar 2) (aNil))) (gTupD 2 (gsCons (gN 4) (gsCons (gN 6) (gsNil)))) (sIf (eOr (eNot (eCall c_is_name (lCons (rVar 6) (lNil)) (lNil))) (eCall c_repeated (lCons (rVar 2) (lCons (rVar 4) (lNil))) (lNil))) (sNever) (sNx))
    [.own 0, .dat (.lst (rs.map rowD)), .dat (.lst (ws.map .str)), .dat gu, u, v, .no, .no] [.obj sS []] = .nx [.own 0, .dat (.lst (rs.map rowD)), .dat (.lst (ws.map .str)), .dat gu, u', v, w', .no] [.obj sS []] := by
  obtain ⟨rho', mu', e, pre, post, u', w', h1, h2, rfl, rfl⟩ := loop_inv (g := gTupD 2 (gsCons (gN 4) (gsCons (gN 6) (gsNil)))) (body := (sIf (eOr (eNot (eCall c_is_name (lCons (rVar 6) (lNil)) (lNil))) (eCall c_repeated (lCons (rVar 2) (lCons (rVar 4) (lNil))) (lNil))) (sNever) (sNx)))
    (fun ds rho mu => ∃ pre post u' w', ws = pre ++ post ∧ ds = enumD pre.length (post.map .str) ∧ rho = [.own 0, .dat (.lst (rs.map rowD)), .dat (.lst (ws.map .str)), .dat gu, u', v, w', .no] ∧ mu = [.obj sS []])
    (by
      rintro d ds rho mu ⟨pre, post, u', w', h1, h2, rfl, rfl⟩
      cases post with
      | nil => simp [enumD] at h2
      | cons r post =>
        rw [List.map_cons, enum_cons] at h2
        injection h2 with h2 h3
        subst h2; subst h3
        have hr : r ∈ ws := by rw [h1]; simp
        refine ⟨[.own 0, .dat (.lst (rs.map rowD)), .dat (.lst (ws.map .str)), .dat gu, .dat (.int pre.length), v, .dat (.str r), .no], by simp [gTupD, gsCons, gsNil, gN], [.own 0, .dat (.lst (rs.map rowD)), .dat (.lst (ws.map .str)), .dat gu, .dat (.int pre.length), v, .dat (.str r), .no], [.obj sS []], ?_, pre ++ [r], post, _, _, by rw [h1]; simp, by simp, rfl, rfl⟩
        have e2' := repeated_ok (pre := pre) (post := post) (x := r) (fun y hy => (hn y (by rw [h1]; simp [hy])).sk) (hn r hr).sk (by
            rw [h1] at nd
            have := (List.nodup_append.mp nd).2.2
            intro hm
            exact this _ hm _ List.mem_cons_self rfl) [.obj sS []]
        rw [← h1] at e2'
        generalize ws.map D.str = L at *
        simp [sIf, eOr, eNot, e1, eCall, lCons, rVar, lNil, Rs.bind, is_name_ok (hn r hr), gNot, Rs.ofO, e2', rBind, sNx])
    (enumD 0 (ws.map .str)) [.own 0, .dat (.lst (rs.map rowD)), .dat (.lst (ws.map .str)), .dat gu, u, v, .no, .no] [.obj sS []] ⟨[], ws, u, .no, rfl, rfl, rfl, rfl⟩
  refine ⟨u', w', ?_⟩
  simp only [sFor, aEnumA, aCons, aNil, eVar, Rs.bind, itemsD, List.getElem?_cons_succ, List.getElem?_cons_zero, rBind]
  exact e
theorem dinit_ok {rs : List Row} {ws : List Str} {gu : D} (hk : ∀ r ∈ rs, Rok r) (hn : ∀ r ∈ rs, Nm r.n) (nd : (rs.map Row.n).Nodup) (hr0 : 1 ≤ rs.length) (hr1 : rs.length ≤ 4) (hw : ∀ w ∈ ws, Nm w) (wd : ws.Nodup) (hw0 : 1 ≤ ws.length) (hw1 : ws.length ≤ 10)
    (hg : gu = .non ∨ ∃ i : Int, gu = .int i ∧ 0 ≤ i ∧ i ≤ 1000000000) :
    m_Scheme_dinit [.own 0, .dat (.lst (rs.map rowD)), .dat (.lst (ws.map .str)), .dat gu] [.obj sS []] = .ok .non [schD rs (sortS ws) gu] := by
  obtain ⟨u, v, e1'⟩ := rows_loop ws gu hk hn nd (by omega)
  obtain ⟨u', w', e2'⟩ := words_loop rs gu u v hw wd (by omega)
  have e3 : (rs.map rowD).map (fun d => d) = rs.map rowD := by simp
  have key : ∃ r, F_Scheme_dinit [.own 0, .dat (.lst (rs.map rowD)), .dat (.lst (ws.map .str)), .dat gu, .no, .no, .no, .no] [.obj sS []] = .nx r [schD rs (sortS ws) gu] := by
    refine ⟨[.own 0, .dat (.lst (rs.map rowD)), .dat (.lst (ws.map .str)), .dat gu, u', v, w', .no], ?_⟩
    refine seq_go (r := [.own 0, .dat (.lst (rs.map rowD)), .dat (.lst (ws.map .str)), .dat gu, .no, .no, .no, .no]) (m := [.obj sS []]) ?_ ?_
    · have a : (1 : Int) ≤ rs.length := by omega
      have b : (rs.length : Int) ≤ 4 := by omega
      simp [sIf, eNot, e1, eChain, eC, eA, aCons, aNil, eVar, Rs.bind, gLen, Rs.ofO, gLe, a, b, gNot, rBind, sNx]
    refine seq_go e1' ?_
    refine seq_go (r := [.own 0, .dat (.lst (rs.map rowD)), .dat (.lst (ws.map .str)), .dat gu, u, v, .no, .no]) (m := [.obj sS []]) ?_ ?_
    · have a : (1 : Int) ≤ ws.length := by omega
      have b : (ws.length : Int) ≤ 10 := by omega
      simp [sIf, eNot, e1, eChain, eC, eA, aCons, aNil, eVar, Rs.bind, gLen, Rs.ofO, gLe, a, b, gNot, rBind, sNx]
    refine seq_go e2' ?_
    refine seq_go (r := [.own 0, .dat (.lst (rs.map rowD)), .dat (.lst (ws.map .str)), .dat gu, u', v, w', .no]) (m := [.obj sS []]) ?_ ?_
    · rcases hg with rfl | ⟨i, rfl, i0, i1⟩
      · simp [sIf, eAnd, e2, eC, eVar, Rs.bind, gIsNot, isNonD, Rs.ofO, rBind, sNx]
      · simp [sIf, eAnd, eNot, e1, eChain, e2, eC, eVar, Rs.bind, gIsNot, isNonD, gLe, i0, i1, gNot, Rs.ofO, rBind, sNx]
    refine seq_go (r := [.own 0, .dat (.lst (rs.map rowD)), .dat (.lst (ws.map .str)), .dat gu, u', v, w', .no]) (m := [.obj sS [(Str.ofString "parts", .lst (rs.map rowD))]]) ?_ ?_
    · have := lc_eq (it := aIt (eVar 1)) (i := 5) (f := eA gTupOf (aCons (eVar 5) (aNil))) (vs := [5]) (rho := [.own 0, .dat (.lst (rs.map rowD)), .dat (.lst (ws.map .str)), .dat gu, u', v, w', .no]) (mu := [.obj sS []]) (ds := rs.map rowD) (k := fun d => d)
        (by simp [aIt, eVar, Rs.bind, iterD, itemsD, Rs.ofO]) (fun d hd => by
          obtain ⟨q, hq, rfl⟩ := List.mem_map.mp hd
          simp [wipeS, eA, aCons, aNil, eVar, Rs.bind, gTupOf, rowD, Rs.ofO]) (by simp; omega)
      unfold sAttr
      rw [this, e3]
      rfl
    refine seq_go (r := [.own 0, .dat (.lst (rs.map rowD)), .dat (.lst (ws.map .str)), .dat gu, u', v, w', .no]) (m := [.obj sS [(Str.ofString "parts", .lst (rs.map rowD)), (Str.ofString "words", .lst ((sortS ws).map .str))]]) ?_ ?_
    · have c3 : gSortedS [.lst (ws.map .str)] = some (.lst ((sortS ws).map .str)) := by
        unfold gSortedS
        simp only [List.length_map]
        rw [if_pos (by omega), strs_back]; rfl
      have : eA gSortedS (aCons (eA gListOf (aCons (eVar 2) (aNil))) (aNil)) [.own 0, .dat (.lst (rs.map rowD)), .dat (.lst (ws.map .str)), .dat gu, u', v, w', .no] [.obj sS [(Str.ofString "parts", .lst (rs.map rowD))]] = .ok (.lst ((sortS ws).map .str)) [.obj sS [(Str.ofString "parts", .lst (rs.map rowD))]] := by
        simp [eA, aCons, aNil, eVar, Rs.bind, gListOf, itemsD, Rs.ofO, c3]
      unfold sAttr
      rw [this]
      have p : putD (Str.ofString "words") (.lst ((sortS ws).map .str)) [(Str.ofString "parts", .lst (rs.map rowD))] = [(Str.ofString "parts", .lst (rs.map rowD)), (Str.ofString "words", .lst ((sortS ws).map .str))] := by
        unfold putD
        rw [if_neg (by decide +kernel)]; rfl
      simp [rBind, p]
    · have p : putD (Str.ofString "guests") gu [(Str.ofString "parts", .lst (rs.map rowD)), (Str.ofString "words", .lst ((sortS ws).map .str))] = schF rs (sortS ws) gu := by
        unfold putD
        rw [if_neg (by decide +kernel)]
        unfold putD
        rw [if_neg (by decide +kernel)]; rfl
      simp [sAttr, eVar, rBind, p, schD]
  obtain ⟨r, key⟩ := key
  have : keepsAll [schD rs (sortS ws) gu] = true := rfl
  simp [m_Scheme_dinit, mirB, key, this]
theorem mk_ok {rs : List Row} {ws : List Str} {gu : D} (hk : ∀ r ∈ rs, Rok r) (hn : ∀ r ∈ rs, Nm r.n) (nd : (rs.map Row.n).Nodup) (hr0 : 1 ≤ rs.length) (hr1 : rs.length ≤ 4) (hw : ∀ w ∈ ws, Nm w) (wd : ws.Nodup) (hw0 : 1 ≤ ws.length) (hw1 : ws.length ≤ 10)
    (hg : gu = .non ∨ ∃ i : Int, gu = .int i ∧ 0 ≤ i ∧ i ≤ 1000000000) (mu : List D) :
    cMk sS c_Scheme_dinit_3_strangers [.dat (.lst (rs.map rowD)), .dat (.lst (ws.map .str))] [.dat gu] mu = .ok (schD rs (sortS ws) gu) mu := by
  have e := dinit_ok hk hn nd hr0 hr1 hw wd hw0 hw1 hg
  have g : (mu ++ [D.obj sS []]).getD mu.length .non = .obj sS [] := by simp
  have p : putBack [mu.length] [schD rs (sortS ws) gu] (mu ++ [.obj sS []]) = mu ++ [schD rs (sortS ws) gu] := by simp [putBack]
  have c : c_Scheme_dinit_3_strangers [.own mu.length, .dat (.lst (rs.map rowD)), .dat (.lst (ws.map .str))] [.dat gu] (mu ++ [.obj sS []]) = .ok .non (mu ++ [schD rs (sortS ws) gu]) := by
    show cFn m_Scheme_dinit 3 1 [.p 0, .p 1, .p 2, .k 0] _ _ _ = _
    unfold cFn callM
    simp only [srcS, List.map_cons, List.map_nil, List.getD_cons_zero, List.getD_cons_succ, ownKs, renum, List.length_cons, List.length_nil]
    rw [if_pos (by simp), if_pos (by simp), g, e]
    simp only [p]
  unfold cMk
  rw [c]
  simp [schD]
end K57
end DL

set_option maxHeartbeats 4000000
namespace DL
open PySem PySem.Spec PyProof.Rows L2 ClX TL
abbrev nS (i : Int) : Str := Str.ofString (toString i)
theorem log_ok {i : Int} (h : i.natAbs ≤ 1000000000000) : i.natAbs.log2 < 1920 := by
  by_cases e : i.natAbs = 0
  · rw [e]; decide
  · have : i.natAbs.log2 < 40 := (Nat.log2_lt e).mpr (by have : (2:Nat) ^ 40 = 1099511627776 := by decide
                                                         omega)
    omega
theorem tl_nS_nat (n : Nat) : tl (nS (n : Int)) = numL n := tl_num n
theorem tl_nS_neg (n : Nat) : tl (nS (Int.negSucc n)) = 45 :: numL (n + 1) := by
  have h : toString (Int.negSucc n) = "-" ++ toString ((n + 1 : Nat)) := rfl
  show tl (Str.ofString (toString (Int.negSucc n))) = _
  have h2 := tl_num (n + 1)
  rw [tl_ofString] at h2 ⊢
  rw [h, String.toList_append, List.map_append, ← h2]
  rfl
/-- a word of a line -/
structure Wd (x : Str) : Prop where
  len : x.length ≤ 16
  sgn : ∀ c ∈ tl x, 33 ≤ c ∧ c < 128
theorem Nm.wd {x : Str} (h : Nm x) : Wd x := ⟨by rw [len_tl]; have := h.2.1; omega, fun c hc => by have := h.2.2 c hc; omega⟩
theorem nS_wd {i : Int} (h0 : -1000000000000 ≤ i) (h1 : i ≤ 1000000000000) : Wd (nS i) := by
  have e : (10 : Nat) ^ 13 = 10000000000000 := by decide
  cases i with
  | ofNat n =>
    have hn : n < 10 ^ 13 := by rw [e]; have : (n : Int) ≤ 1000000000000 := h1; omega
    have ht : tl (nS (Int.ofNat n)) = numL n := tl_num n
    refine ⟨?_, fun c hc => ?_⟩
    · have := numL_len (k := 13) (by decide) hn
      rw [len_tl, ht]; omega
    · rw [ht] at hc; have := numL_digits n c hc; omega
  | negSucc n =>
    have hn : n + 1 < 10 ^ 13 := by rw [e]; omega
    have ht := tl_nS_neg n
    refine ⟨?_, fun c hc => ?_⟩
    · have := numL_len (k := 13) (by decide) hn
      rw [len_tl, ht, List.length_cons]; omega
    · rw [ht] at hc
      rcases List.mem_cons.mp hc with q | q
      · omega
      · have := numL_digits (n + 1) c q; omega
theorem joinL_len (S : List Nat) (k : Nat) : ∀ ps : List (List Nat), (∀ p ∈ ps, p.length ≤ k) → (joinL S ps).length ≤ ps.length * (k + S.length)
  | [], _ => by simp [joinL]
  | [p], h => by have := h p (by simp); simp [joinL]; omega
  | p :: q :: r, h => by
    have h1 := h p (by simp)
    have h2 := joinL_len S k (q :: r) fun x hx => h x (List.mem_cons_of_mem _ hx)
    simp only [joinL, List.length_append, List.length_cons] at h2 ⊢
    have : (r.length + 1 + 1) * (k + S.length) = (r.length + 1) * (k + S.length) + (k + S.length) := by rw [Nat.add_mul (r.length + 1) 1]; omega
    omega
theorem joinL_mem (S : List Nat) {c : Nat} : ∀ ps : List (List Nat), c ∈ joinL S ps → c ∈ S ∨ ∃ p ∈ ps, c ∈ p
  | [], h => by simp [joinL] at h
  | [p], h => .inr ⟨p, by simp, by simpa [joinL] using h⟩
  | p :: q :: r, h => by
    simp only [joinL, List.mem_append] at h
    rcases h with h | h | h
    · exact .inr ⟨p, by simp, h⟩
    · exact .inl h
    · rcases joinL_mem S (q :: r) h with h | ⟨x, hx, hc⟩
      · exact .inl h
      · exact .inr ⟨x, List.mem_cons_of_mem _ hx, hc⟩
theorem join_len (y : Str) (k : Nat) (ws : List Str) (h : ∀ w ∈ ws, w.length ≤ k) : (Txt.join y ws).length ≤ ws.length * (k + y.length) := by
  rw [len_tl, join_eq, tl_join, len_tl y]
  have := joinL_len (tl y) k (ws.map tl) (fun p hp => by obtain ⟨w, hw, rfl⟩ := List.mem_map.mp hp; rw [← len_tl]; exact h w hw)
  rwa [List.length_map] at this
theorem sum_len (k : Nat) : ∀ ws : List Str, (∀ w ∈ ws, w.length ≤ k) → (ws.map (·.length)).sum ≤ ws.length * k
  | [], _ => by simp
  | w :: ws, h => by
    have h1 := h w (by simp)
    have h2 := sum_len k ws fun x hx => h x (List.mem_cons_of_mem _ hx)
    simp only [List.map_cons, List.sum_cons, List.length_cons, Nat.add_mul]
    omega
theorem join_ok (y : Str) (k : Nat) (ws : List Str) (h : ∀ w ∈ ws, w.length ≤ k) (hb : ws.length * k + ws.length * y.length ≤ 16777216) : gJoin (.str y) [.lst (ws.map .str)] = some (.str (Txt.join y ws)) := by
  have := sum_len k ws h
  simp only [gJoin, strs_back]
  rw [if_pos (by omega)]
abbrev sp : Str := Str.ofString " "
abbrev nl : Str := Str.ofString "\n"
theorem tl_sp : tl sp = [32] := by decide +kernel
theorem tl_nl : tl nl = [10] := by decide +kernel
theorem len_sp : sp.length = 1 := by rw [len_tl, tl_sp]; rfl
theorem len_nl : nl.length = 1 := by rw [len_tl, tl_nl]; rfl
def wordsR (r : Row) : List Str := [Str.ofString "site", r.n, nS r.w, nS r.lo, nS r.hi, nS r.a, nS r.b]
theorem wd_site : Wd (Str.ofString "site") := ⟨by decide +kernel, by decide +kernel⟩
theorem wd_items : Wd (Str.ofString "items") := ⟨by decide +kernel, by decide +kernel⟩
theorem wordsR_wd {r : Row} (hn : Nm r.n) (h : Rok r) : ∀ w ∈ wordsR r, Wd w := by
  have := h.w0; have := h.w1; have := h.l0; have := h.lh; have := h.h1; have := h.a0; have := h.a1; have := h.b0; have := h.b1
  intro w hw
  simp only [wordsR, List.mem_cons, List.not_mem_nil, or_false] at hw
  rcases hw with rfl | rfl | rfl | rfl | rfl | rfl | rfl
  · exact wd_site
  · exact hn.wd
  all_goals exact nS_wd (by omega) (by omega)
def lineR (r : Row) : Str := Txt.join sp (wordsR r)
def lineI (ws : List Str) : Str := Txt.join sp (Str.ofString "items" :: ws)
def guS : D → Str
  | .int i => nS i
  | _ => Str.ofString "any"
def lineS (gu : D) : Str := Txt.join sp [Str.ofString "strangers", guS gu]
def GuOk (gu : D) : Prop := gu = .non ∨ ∃ i : Int, gu = .int i ∧ 0 ≤ i ∧ i ≤ 1000000000
theorem wd_any : Wd (Str.ofString "any") := ⟨by decide +kernel, by decide +kernel⟩
theorem wd_strangers : Wd (Str.ofString "strangers") := ⟨by decide +kernel, by decide +kernel⟩
theorem guS_wd {gu : D} (h : GuOk gu) : Wd (guS gu) := by
  rcases h with rfl | ⟨i, rfl, h0, h1⟩
  · exact wd_any
  · exact nS_wd (by omega) (by omega)
/-- a line: words with blanks between -/
theorem line_len {ws : List Str} (h : ∀ w ∈ ws, Wd w) (hl : ws.length ≤ 7) : (Txt.join sp ws).length ≤ 119 := by
  have := join_len sp 16 ws fun w hw => (h w hw).len
  rw [len_sp] at this
  omega
theorem line_free {ws : List Str} (h : ∀ w ∈ ws, Wd w) : 10 ∉ tl (Txt.join sp ws) := by
  rw [join_eq, tl_join, tl_sp]
  intro hm
  rcases joinL_mem [32] _ hm with q | ⟨p, hp, q⟩
  · simp at q
  · obtain ⟨w, hw, rfl⟩ := List.mem_map.mp hp
    have := (h w hw).sgn 10 q
    omega
theorem line_split {ws : List Str} (h : ∀ w ∈ ws, Wd w) (hl : ws.length ≤ 7) (hne : ws ≠ []) : gSplit (.str (Txt.join sp ws)) [.str sp] = some (.lst (ws.map .str)) := by
  have e : Txt.split (Txt.join sp ws) sp = ws := split_join (s := 32) (S := []) tl_sp (by decide +kernel) hne fun p hp hm => by
    have := (h p hp).sgn 32 hm
    omega
  have l := line_len h hl
  simp only [gSplit, e]
  rw [if_pos ⟨by rw [len_sp]; rfl, by omega⟩]
theorem line_join {ws : List Str} (h : ∀ w ∈ ws, Wd w) (hl : ws.length ≤ 7) : gJoin (.str sp) [.lst (ws.map .str)] = some (.str (Txt.join sp ws)) :=
  join_ok sp 16 ws (fun w hw => (h w hw).len) (by rw [len_sp]; omega)
def lines (rs : List Row) (ws : List Str) (gu : D) : List Str := rs.map lineR ++ [lineI ws, lineS gu]
def linesD (rs : List Row) (ws : List Str) (gu : D) : D := .lst ((lines rs ws gu).map .str)
def txt (rs : List Row) (ws : List Str) (gu : D) : Str := Txt.join nl (lines rs ws gu)
/-- what is written -/
structure Wr (rs : List Row) (ws : List Str) (gu : D) : Prop where
  r1 : rs.length ≤ 2
  rok : ∀ r ∈ rs, Rok r
  rnm : ∀ r ∈ rs, Nm r.n
  w1 : ws.length ≤ 5
  wnm : ∀ w ∈ ws, Nm w
  g : GuOk gu
section
variable {rs : List Row} {ws : List Str} {gu : D}
theorem Wr.wI (h : Wr rs ws gu) : ∀ w ∈ Str.ofString "items" :: ws, Wd w := fun w hw => by
  rcases List.mem_cons.mp hw with q | q
  · rw [q]; exact wd_items
  · exact (h.wnm w q).wd
theorem Wr.wS (h : Wr rs ws gu) : ∀ w ∈ [Str.ofString "strangers", guS gu], Wd w := fun w hw => by
  simp only [List.mem_cons, List.not_mem_nil, or_false] at hw
  rcases hw with rfl | rfl
  · exact wd_strangers
  · exact guS_wd h.g
theorem Wr.lines_ok (h : Wr rs ws gu) : ∀ x ∈ lines rs ws gu, x.length ≤ 119 ∧ 10 ∉ tl x := fun x hx => by
  simp only [lines, List.mem_append, List.mem_cons, List.not_mem_nil, or_false, List.mem_map] at hx
  have w1 := h.w1
  rcases hx with ⟨r, hr, rfl⟩ | rfl | rfl
  · exact ⟨line_len (wordsR_wd (h.rnm r hr) (h.rok r hr)) (by simp [wordsR]), line_free (wordsR_wd (h.rnm r hr) (h.rok r hr))⟩
  · exact ⟨line_len h.wI (by simp; omega), line_free h.wI⟩
  · exact ⟨line_len h.wS (by simp), line_free h.wS⟩
theorem Wr.txt_join (h : Wr rs ws gu) : gJoin (.str nl) [linesD rs ws gu] = some (.str (txt rs ws gu)) :=
  join_ok nl 119 _ (fun w hw => (h.lines_ok w hw).1) (by rw [len_nl]; have := h.r1; simp [lines]; omega)
theorem Wr.txt_len (h : Wr rs ws gu) : (txt rs ws gu).length ≤ 480 := by
  have := join_len nl 119 (lines rs ws gu) fun w hw => (h.lines_ok w hw).1
  rw [len_nl] at this
  have r1 := h.r1
  simp [lines] at this
  unfold txt lines
  omega
theorem Wr.txt_split (h : Wr rs ws gu) : gSplit (.str (txt rs ws gu)) [.str nl] = some (linesD rs ws gu) := by
  have e : Txt.split (txt rs ws gu) nl = lines rs ws gu := split_join (s := 10) (S := []) tl_nl (by decide +kernel) (by simp [lines]) fun p hp => (h.lines_ok p hp).2
  have l := h.txt_len
  simp only [gSplit, e]
  rw [if_pos ⟨by rw [len_nl]; rfl, by omega⟩]; rfl
end
end DL

set_option maxHeartbeats 4000000
namespace DL
open PySem PySem.Spec PyProof.Rows L2 ClX TL
section
variable (rs : List Row) (ws : List Str) (gu : D)
theorem look_parts : (schF rs ws gu).lookup (Str.ofString "parts") = some (.lst (rs.map rowD)) := by
  simp [schF, List.lookup_cons]
theorem look_words : (schF rs ws gu).lookup (Str.ofString "words") = some (.lst (ws.map D.str)) := by
  have b : (Str.ofString "words" == Str.ofString "parts") = false := by decide +kernel
  simp [schF, List.lookup_cons, b]
theorem look_guests : (schF rs ws gu).lookup (Str.ofString "guests") = some gu := by
  have b : (Str.ofString "guests" == Str.ofString "parts") = false := by decide +kernel
  have b2 : (Str.ofString "guests" == Str.ofString "words") = false := by decide +kernel
  simp [schF, List.lookup_cons, b, b2]
theorem look_no {m : Str} (h1 : (m == Str.ofString "parts") = false) (h2 : (m == Str.ofString "words") = false) (h3 : (m == Str.ofString "guests") = false) : (schF rs ws gu).lookup m = none := by
  simp [schF, List.lookup_cons, h1, h2, h3]
end
theorem e2_ok {g : D → D → Option D} {f1 f2 : FE} {rho : List Sl} {mu mu1 mu2 : List D} {a b c : D} (h1 : f1 rho mu = .ok a mu1) (h2 : f2 rho mu1 = .ok b mu2) (h3 : g a b = some c) : e2 g f1 f2 rho mu = .ok c mu2 := by
  simp only [e2, h1, h2, h3, Rs.bind, Rs.ofO]
theorem eA_ok {g : List D → Option D} {f : FA} {rho : List Sl} {mu mu1 : List D} {as : List D} {c : D} (h1 : f rho mu = .ok as mu1) (h3 : g as = some c) : eA g f rho mu = .ok c mu1 := by
  simp only [eA, h1, h3, Rs.bind, Rs.ofO]
theorem aCons_ok {f : FE} {fa : FA} {rho : List Sl} {mu mu1 mu2 : List D} {as : List D} {a : D} (h1 : f rho mu = .ok a mu1) (h2 : fa rho mu1 = .ok as mu2) : aCons f fa rho mu = .ok (a :: as) mu2 := by
  simp only [aCons, h1, h2, Rs.bind]
theorem aStar_ok {f : FE} {fa : FA} {rho : List Sl} {mu mu1 mu2 : List D} {xs as : List D} (h1 : f rho mu = .ok (.lst xs) mu1) (h2 : fa rho mu1 = .ok as mu2) : aStar f fa rho mu = .ok (xs ++ as) mu2 := by
  simp only [aStar, h1, h2, Rs.bind, itemsD]
theorem eM1_ok {g : D → List D → Option D} {f1 f2 : FE} {rho : List Sl} {mu mu1 mu2 : List D} {x : Str} {b c : D} (h1 : f1 rho mu = .ok (.str x) mu1) (h2 : f2 rho mu1 = .ok b mu2) (h3 : g (.str x) [b] = some c) : eM1 g f1 f2 rho mu = .ok c mu2 := by
  simp only [eM1, h1, h2, h3, Rs.bind, Rs.ofO]
theorem sRet_ok {f : FE} {rho : List Sl} {mu mu1 : List D} {d : D} (h : f rho mu = .ok d mu1) : sRet f rho mu = .rt d mu1 := by
  simp only [sRet, h, rBind]
theorem sSet_ok {i : Nat} {f : FE} {rho : List Sl} {mu mu1 : List D} {d : D} (h : f rho mu = .ok d mu1) : sSet i f rho mu = .nx (rho.set i (.dat d)) mu1 := by
  simp only [sSet, h, rBind]
theorem sIf_no {c : FE} {f : FS} {rho : List Sl} {mu mu1 : List D} (h : c rho mu = .ok (.bl false) mu1) : sIf c f sNx rho mu = .nx rho mu1 := by
  simp only [sIf, h, rBind, sNx]
theorem eNot_ok {f : FE} {rho : List Sl} {mu mu1 : List D} {b : Bool} (h : f rho mu = .ok (.bl b) mu1) : eNot f rho mu = .ok (.bl (!b)) mu1 := by
  simp only [eNot, e1, h, gNot, Rs.bind, Rs.ofO]
theorem eOr_no {f g : FE} {rho : List Sl} {mu mu1 : List D} {r : Rs D} (h : f rho mu = .ok (.bl false) mu1) (h2 : g rho mu1 = r) : eOr f g rho mu = r := by
  simp only [eOr, h, Rs.bind, h2]
theorem eAnd_go {f g : FE} {rho : List Sl} {mu mu1 : List D} {r : Rs D} (h : f rho mu = .ok (.bl true) mu1) (h2 : g rho mu1 = r) : eAnd f g rho mu = r := by
  simp only [eAnd, h, Rs.bind, h2]
theorem lineS_eq (gu : D) : Str.ofString "strangers " ++ guS gu = lineS gu := by
  refine ext_tl ?_
  have h : tl (Str.ofString "strangers ") = tl (Str.ofString "strangers") ++ [32] := by decide +kernel
  rw [tl_append, lineS, join_eq, tl_join, tl_sp, h]
  simp [joinL]
theorem items_eq (r : Row) : (rowD r) = .tup [.str r.n, .int r.w, .int r.lo, .int r.hi, .int r.a, .int r.b] := rfl
theorem row_lc {r : Row} (h : Rok r) {it : FA} {rho : List Sl} {mu : List D} {j : Nat} (hj : j < rho.length) (hi : it rho mu = .ok [.str r.n, .int r.w, .int r.lo, .int r.hi, .int r.a, .int r.b] mu) :
    eLc it (gN j) (eC (.bl true)) (eA gStrOf (aCons (eVar j) (aNil))) [j] rho mu = .ok (.lst ([r.n, nS r.w, nS r.lo, nS r.hi, nS r.a, nS r.b].map D.str)) mu := by
  have hw0 := h.w0; have hw1 := h.w1; have hl := h.l0; have hlh := h.lh; have hh := h.h1; have ha := h.a0; have ha1 := h.a1; have hb := h.b0; have hb1 := h.b1
  rw [lc_eq (k := fun d => match d with | .int i => .str (nS i) | d => d) hi]
  · rfl
  · intro d hd
    have hs : ((wipeS rho [j]).set j (.dat d))[j]? = some (.dat d) := by
      rw [List.getElem?_set_self]; rw [wipeS_length]; exact hj
    simp only [eA, aCons, aNil, eVar, hs, Rs.bind]
    simp only [List.mem_cons, List.not_mem_nil, or_false] at hd
    rcases hd with rfl | rfl | rfl | rfl | rfl | rfl
    · rfl
    all_goals
      simp only [gStrOf]
      rw [if_pos (log_ok (by omega))]
      rfl
  · simp
theorem row_join {r : Row} (hn : Nm r.n) (h : Rok r) : gJoin (.str sp) [.lst (D.str (Str.ofString "site") :: [r.n, nS r.w, nS r.lo, nS r.hi, nS r.a, nS r.b].map D.str)] = some (.str (lineR r)) := line_join (wordsR_wd hn h) (by simp [wordsR])
section
variable {rs : List Row} {ws : List Str} {gu : D}
theorem Wr.itm (h : Wr rs ws gu) : gJoin (.str sp) [.lst (D.str (Str.ofString "items") :: ws.map D.str)] = some (.str (lineI ws)) := line_join h.wI (by have := h.w1; simp; omega)
theorem any_is : gIs .non .non = some (.bl true) := rfl
theorem int_is (i : Int) : gIs (.int i) .non = some (.bl false) := rfl
theorem str_gu {i : Int} (h0 : 0 ≤ i) (h1 : i ≤ 1000000000) : gStrOf [.int i] = some (.str (nS i)) := by
  simp only [gStrOf]
  rw [if_pos (log_ok (by omega))]
theorem len_strangers : (Str.ofString "strangers ").length = 10 := by decide +kernel
namespace K57
theorem lines_law (h : Wr rs ws gu) (mu : List D) : c_law_scheme_lines [.dat (planD rs ws gu)] [] mu = .ok (linesD rs ws gu) mu := by
  refine cf1 (m' := []) ?_ mu
  have p0 : gIx (planD rs ws gu) (.int 0) = some (.lst (rs.map rowD)) := rfl
  have p1 : gIx (planD rs ws gu) (.int 1) = some (.lst (ws.map D.str)) := rfl
  have p2 : gIx (planD rs ws gu) (.int 2) = some gu := rfl
  generalize planD rs ws gu = P at *
  have r1 := h.r1
  have w1 := h.w1
  have key : F_law_scheme_lines [.dat P, .no, .no, .no] [] = .rt (linesD rs ws gu) [.non] := by
    refine seq_go (r := [.dat P, .own 0, .no, .no]) (m := [.lst ((rs.map lineR).map D.str)]) ?_ ?_
    · have := lc_eq (it := aIt (e2 gIx (eVar 0) (eC (.int 0)))) (i := 2) (f := eM1 gJoin (eC (.str (Str.ofString " "))) (e2 gAdd (eA gLst (aCons (eC (.str (Str.ofString "site"))) (aNil))) (eLc (aIt (eVar 2)) (gN 3) (eC (.bl true)) (eA gStrOf (aCons (eVar 3) (aNil))) [3]))) (vs := [2]) (rho := [.dat P, .no, .no, .no]) (mu := []) (ds := rs.map rowD)
        (k := fun d => match d with | .tup [.str n, .int w, .int lo, .int hi, .int a, .int b] => .str (lineR ⟨n, w, lo, hi, a, b⟩) | d => d)
        (by simp [aIt, e2, eVar, eC, Rs.bind, p0, Rs.ofO, iterD, itemsD])
        (fun d hd => by
          obtain ⟨r, hr, rfl⟩ := List.mem_map.mp hd
          have hl := row_lc (r := r) (h.rok r hr) (it := aIt (eVar 2)) (rho := [.dat P, .no, .dat (rowD r), .no]) (mu := []) (j := 3) (by simp) (by simp [aIt, eVar, Rs.bind, iterD, itemsD, rowD, Rs.ofO])
          have hj := row_join (h.rnm r hr) (h.rok r hr)
          show eM1 gJoin (eC (.str sp)) _ [.dat P, .no, .dat (rowD r), .no] [] = _
          simp only [eM1, eC, Rs.bind, e2, eA, aCons, aNil, gLst, Rs.ofO, List.length_cons, List.length_nil]
          rw [if_pos (by omega)]
          simp only [hl, gAdd, List.length_cons, List.length_nil, List.length_map]
          rw [if_pos (by omega)]
          simp only [List.cons_append, List.nil_append, hj, rowD]) (by simp; omega)
      simp only [sNew]
      rw [this]
      simp [rBind, rowD, Function.comp_def]
    refine seq_go (r := [.dat P, .own 0, .no, .no]) (m := [.lst ((rs.map lineR).map D.str ++ [D.str (lineI ws)])]) ?_ ?_
    · have hi := h.itm
      have : eM1 gJoin (eC (.str sp)) (e2 gAdd (eA gLst (aCons (eC (.str (Str.ofString "items"))) (aNil))) (e2 gIx (eVar 0) (eC (.int 1)))) [.dat P, .own 0, .no, .no] [.lst ((rs.map lineR).map D.str)] = .ok (.str (lineI ws)) [.lst ((rs.map lineR).map D.str)] := by
        simp only [eM1, eC, Rs.bind, e2, eA, aCons, aNil, gLst, Rs.ofO, List.length_cons, List.length_nil]
        rw [if_pos (by omega)]
        simp only [eVar, List.getElem?_cons_zero, Rs.bind, p1, gAdd, List.length_cons, List.length_nil, List.length_map]
        rw [if_pos (by omega)]
        simp only [List.cons_append, List.nil_append, hi]
      simp only [sMut, listAt, List.getElem?_cons_succ, List.getElem?_cons_zero, aCons, aNil]
      rw [this]
      have hl : ((rs.map lineR).map D.str).length < 16777216 := by simp; omega
      generalize (rs.map lineR).map D.str = L at *
      simp [Rs.bind, rBind, gAppend, hl]
    · have hz : ((rs.map lineR).map D.str ++ [D.str (lineI ws)]).length + 1 ≤ 16777216 := by simp; omega
      have he : linesD rs ws gu = .lst (((rs.map lineR).map D.str ++ [D.str (lineI ws)]) ++ [D.str (lineS gu)]) := by simp [linesD, lines]
      rw [he]
      generalize (rs.map lineR).map D.str ++ [D.str (lineI ws)] = L at *
      have hg : eIf (e2 gIs (e2 gIx (eVar 0) (eC (.int 2))) (eC .non)) (eC (.str (Str.ofString "any"))) (eA gStrOf (aCons (e2 gIx (eVar 0) (eC (.int 2))) (aNil))) [.dat P, .dat (.lst L), .no, .no] [.non] = .ok (.str (guS gu)) [.non] := by
        rcases h.g with rfl | ⟨i, rfl, i0, i1⟩
        · simp [eIf, e2, eVar, eC, Rs.bind, p2, Rs.ofO, any_is, guS]
        · simp [eIf, e2, eVar, eC, Rs.bind, p2, Rs.ofO, int_is, guS, eA, aCons, aNil, str_gu i0 i1]
      have hgl := (guS_wd h.g).len
      have hs : gAdd (.str (Str.ofString "strangers ")) (.str (guS gu)) = some (.str (lineS gu)) := by
        simp only [gAdd, len_strangers]
        rw [if_pos (by omega), lineS_eq]
      have hs2 : e2 gAdd (eC (.str (Str.ofString "strangers "))) (eIf (e2 gIs (e2 gIx (eVar 0) (eC (.int 2))) (eC .non)) (eC (.str (Str.ofString "any"))) (eA gStrOf (aCons (e2 gIx (eVar 0) (eC (.int 2))) (aNil)))) [.dat P, .dat (.lst L), .no, .no] [.non] = .ok (.str (lineS gu)) [.non] := by
        simp only [e2, eC, Rs.bind] at hg ⊢
        rw [hg]
        simp only [hs, Rs.ofO]
      show sFrz 1 (sRet (e2 gAdd (eVar 1) (eA gLst (aCons (e2 gAdd (eC (.str (Str.ofString "strangers "))) (eIf (e2 gIs (e2 gIx (eVar 0) (eC (.int 2))) (eC .non)) (eC (.str (Str.ofString "any"))) (eA gStrOf (aCons (e2 gIx (eVar 0) (eC (.int 2))) (aNil))))) (aNil))))) _ _ = _
      simp only [sFrz, List.getElem?_cons_succ, List.getElem?_cons_zero, frzS, if_pos, List.set_cons_zero, sRet, eA, aCons, aNil]
      have hf : e2 gAdd (eVar 1) (eA gLst (aCons (e2 gAdd (eC (.str (Str.ofString "strangers "))) (eIf (e2 gIs (e2 gIx (eVar 0) (eC (.int 2))) (eC .non)) (eC (.str (Str.ofString "any"))) (eA gStrOf (aCons (e2 gIx (eVar 0) (eC (.int 2))) (aNil))))) (aNil))) [.dat P, .dat (.lst L), .no, .no] [.non] = .ok (.lst (L ++ [D.str (lineS gu)])) [.non] :=
        e2_ok (a := .lst L) (b := .lst [.str (lineS gu)]) (mu1 := [.non]) rfl (eA_ok (as := [.str (lineS gu)]) (aCons_ok hs2 rfl) rfl) (by simp [gAdd]; omega)
      rw [hf]
      rfl
  simp [m_law_scheme_lines, mirB, key, keepsAll]
end K57
end
end DL

set_option maxHeartbeats 4000000
namespace DL
open PySem PySem.Spec PyProof.Rows L2 ClX TL
abbrev fig : Str := Str.ofString "0123456789"
theorem tl_fig : tl fig = (List.range 10).map (48 + ·) := by decide +kernel
theorem fig_mem {c : Nat} : c ∈ tl fig ↔ 48 ≤ c ∧ c ≤ 57 := by
  rw [tl_fig]
  constructor
  · intro h
    obtain ⟨k, hk, rfl⟩ := List.mem_map.mp h
    have := List.mem_range.mp hk
    omega
  · intro h
    exact List.mem_map.mpr ⟨c - 48, List.mem_range.mpr (by omega), by omega⟩
theorem numL_head : ∀ n : Nat, 0 < n → ∃ c r, numL n = c :: r ∧ c ≠ 48 := by
  intro n
  induction n using Nat.strongRecOn with
  | _ n ih =>
    intro h
    by_cases h10 : n < 10
    · exact ⟨48 + n, [], numL_lt h10, by omega⟩
    · obtain ⟨c, r, e, hc⟩ := ih (n / 10) (by omega) (by omega)
      exact ⟨c, r ++ [48 + n % 10], by rw [numL_step (by omega), e]; rfl, hc⟩
theorem bls_map {α : Type} (p : α → Bool) : ∀ cs : List α, blsD (cs.map fun c => D.bl (p c)) = some (cs.map p)
  | [] => rfl
  | c :: cs => by show (blsD (cs.map fun c => D.bl (p c))).map (p c :: ·) = _; rw [bls_map p cs]; rfl
theorem tl_cut1 (z : Str) (a : Nat) (h : a ≤ (tl z).length) : tl (cutS z (some (a : Int)) none) = (tl z).drop a := by
  rw [← len_tl] at h
  show ((tl z).drop _).take _ = _
  rw [HT.sIx_nat, HT.sIx_none, Nat.min_eq_left h]
  rw [List.take_of_length_le]
  rw [List.length_drop, ← len_tl]; omega
theorem Wd.sk {x : Str} (h : Wd x) : Sk x := fun c hc => by have := h.sgn c hc; omega
theorem ofL {x : Str} {l : List Nat} (h : tl x = l) : x = ⟨l.toArray⟩ := ext_tl (by rw [h])
namespace K57
theorem num_all (x : Str) (hl : x.length ≤ 1000) : eA gAll (aCons (eLc (aIt (eVar 0)) (gN 1) (eC (.bl true)) (e2 gIn (eVar 1) (eC (.str (Str.ofString "0123456789")))) [1]) (aNil)) [.dat (.str x), .no] [] = .ok (.bl ((tl x).all fun c => decide (c ∈ tl fig))) [] := by
  have := lc_eq (it := aIt (eVar 0)) (i := 1) (f := e2 gIn (eVar 1) (eC (.str (Str.ofString "0123456789")))) (vs := [1]) (rho := [.dat (.str x), .no]) (mu := []) (ds := signsD x)
    (k := fun d => match d with | .str y => .bl (decide ((tl y).headD 0 ∈ tl fig)) | d => d)
    (by simp [aIt, eVar, Rs.bind, iterD, Rs.ofO]) (fun d hd => by
      obtain ⟨c, hc, rfl⟩ := List.mem_map.mp hd
      show (match gIn (.str ⟨#[c]⟩) (.str fig) with | some a => Rs.ok a [] | none => Rs.stuck) = _
      rw [in1 c fig]; rfl) (by rw [len_tl] at hl; simp [signsD, tl] at hl ⊢; omega)
  refine eA_ok (aCons_ok this rfl) ?_
  have e : (signsD x).map (fun d => match d with | .str y => D.bl (decide ((tl y).headD 0 ∈ tl fig)) | d => d) = (tl x).map fun c => D.bl (decide (c ∈ tl fig)) := by
    unfold signsD
    rw [List.map_map]; rfl
  rw [e]
  simp only [gAll, bls_map]
  show some (D.bl (((tl x).map fun c => decide (c ∈ tl fig)).all id)) = _
  rw [List.all_map]; rfl
theorem len_chain (x : Str) (hl : x.length ≤ 1000) : eChain gLe gLe (eC (.int 1)) (eA gLen (aCons (eVar 0) (aNil))) (eC (.int 13)) [.dat (.str x), .no] [] = .ok (.bl (decide (1 ≤ x.length ∧ x.length ≤ 13))) [] := by
  have a : x.length ≤ 16777216 := by omega
  have b : ((1 : Int) ≤ x.length) ↔ 1 ≤ x.length := by omega
  have c : ((x.length : Int) ≤ 13) ↔ x.length ≤ 13 := by omega
  by_cases p : 1 ≤ x.length
  · simp [eChain, eC, eA, aCons, aNil, eVar, Rs.bind, gLen, Rs.ofO, gLe, a, b, c, p]
  · simp [eChain, eC, eA, aCons, aNil, eVar, Rs.bind, gLen, Rs.ofO, gLe, a, b, c, p]
theorem is_number_yes {x : Str} {n : Nat} (hx : tl x = numL n) (h : n ≤ 1000000000000) (mu : List D) : c_is_number [.dat (.str x)] [] mu = .ok (.bl true) mu := by
  refine cf1 (m' := []) ?_ mu
  have e13 : (10 : Nat) ^ 13 = 10000000000000 := by decide
  have l13 := numL_len (n := n) (k := 13) (by decide) (by omega)
  have lx : x.length ≤ 13 := by rw [len_tl, hx]; exact l13
  have l1 : 1 ≤ x.length := by
    rw [len_tl, hx]
    have := numL_ne n
    cases h : numL n with
    | nil => exact absurd h this
    | cons _ _ => simp
  have hall : (tl x).all (fun c => decide (c ∈ tl fig)) = true := by
    rw [List.all_eq_true]; intro c hc; rw [hx] at hc; exact decide_eq_true (fig_mem.mpr (numL_digits n c hc))
  have c1 := len_chain x (by omega)
  rw [decide_eq_true ⟨l1, lx⟩] at c1
  have c2 := num_all x (by omega)
  rw [hall] at c2
  have skx : Sk x := fun c hc => by rw [hx] at hc; have := numL_digits n c hc; omega
  have sk0 : Sk (Str.ofString "0") := by unfold Sk; decide +kernel
  have key : F_is_number [.dat (.str x), .no] [] = .rt (.bl true) [] := by
    refine seq_go (sIf_no (eOr_no (eNot_ok c1) (eNot_ok c2))) (sRet_ok ?_)
    have q1 : e2 gEq (eVar 0) (eC (.str (Str.ofString "0"))) [.dat (.str x), .no] [] = .ok (.bl (decide (x = Str.ofString "0"))) [] := e2_ok (mu1 := []) rfl rfl (eqs skx sk0)
    by_cases e : x = Str.ofString "0"
    · rw [decide_eq_true e] at q1
      simp only [eOr, q1, Rs.bind]
    · rw [decide_eq_false e] at q1
      refine eOr_no q1 ?_
      have hn : 0 < n := by
        refine Nat.pos_of_ne_zero fun z => e ?_
        refine ext_tl ?_
        rw [hx, z]; decide +kernel
      obtain ⟨c, r, hc, hne⟩ := numL_head n hn
      have hcd := numL_digits n c (by rw [hc]; exact List.mem_cons_self)
      have a0 : atI x.cps.toList 0 = some c := by
        have : x.cps.toList = c :: r := by rw [← hc]; exact hx
        rw [this]; simp [atI, ixN]; 
      have g0 : gIx (.str x) (.int 0) = some (.str ⟨#[c]⟩) := by
        simp only [gIx]
        rw [if_pos (by omega), a0]; rfl
      have n0 : gNe (.str ⟨#[c]⟩) (.str (Str.ofString "0")) = some (.bl true) := by
        rw [nes (fun k hk => by have : k = c := by simpa [tl] using hk
                                omega) sk0]
        have : ¬ ((⟨#[c]⟩ : Str) = Str.ofString "0") := fun e => by
          have := congrArg tl e
          have h0 : tl (Str.ofString "0") = [48] := by decide +kernel
          rw [h0] at this
          simp [tl] at this
          exact hne this
        rw [decide_eq_false this]; rfl
      exact e2_ok (mu1 := []) (e2_ok (mu1 := []) rfl rfl g0) rfl n0
  simp [m_is_number, mirB, key, keepsAll]
theorem is_number_no {x : Str} {r : List Nat} (hx : tl x = 45 :: r) (hl : x.length ≤ 1000) (mu : List D) : c_is_number [.dat (.str x)] [] mu = .ok (.bl false) mu := by
  refine cf1 (m' := []) ?_ mu
  have c2 := num_all x hl
  have hall : (tl x).all (fun c => decide (c ∈ tl fig)) = false := by
    rw [hx, List.all_cons]
    have : ¬ (45 ∈ tl fig) := fun h => by have := fig_mem.mp h; omega
    rw [decide_eq_false this]; rfl
  rw [hall] at c2
  have c1 := len_chain x hl
  have key : F_is_number [.dat (.str x), .no] [] = .rt (.bl false) [] := by
    have : eOr (eNot (eChain gLe gLe (eC (.int 1)) (eA gLen (aCons (eVar 0) (aNil))) (eC (.int 13)))) (eNot (eA gAll (aCons (eLc (aIt (eVar 0)) (gN 1) (eC (.bl true)) (e2 gIn (eVar 1) (eC (.str (Str.ofString "0123456789")))) [1]) (aNil)))) [.dat (.str x), .no] [] = .ok (.bl true) [] := by
      by_cases p : 1 ≤ x.length ∧ x.length ≤ 13
      · rw [decide_eq_true p] at c1
        exact eOr_no (eNot_ok c1) (eNot_ok c2)
      · rw [decide_eq_false p] at c1
        simp only [eOr, eNot_ok c1, Rs.bind, Bool.not_false]
    unfold F_is_number sSeq sIf
    rw [this]
    simp only [rBind, sRet, eC]
  simp [m_is_number, mirB, key, keepsAll]
theorem is_signed_ok {i : Int} (h0 : -1000 ≤ i) (h1 : i ≤ 1000) (mu : List D) : c_is_signed [.dat (.str (nS i))] [] mu = .ok (.bl true) mu := by
  refine cf1 (m' := []) ?_ mu
  cases i with
  | ofNat n =>
    have e := is_number_yes (x := nS (Int.ofNat n)) (n := n) (tl_num n) (by have : (n : Int) ≤ 1000 := h1; omega) []
    generalize nS (Int.ofNat n) = x at *
    have key : F_is_signed [.dat (.str x)] [] = .rt (.bl true) [] := by
      refine sRet_ok ?_
      simp only [eOr, eCall, lCons, rVar, lNil, Rs.bind, List.getElem?_cons_zero]
      simp only [e]
    simp [m_is_signed, mirB, key, keepsAll]
  | negSucc n =>
    have ht := tl_nS_neg n
    have hw := nS_wd (i := Int.negSucc n) (by omega) (by omega)
    generalize nS (Int.negSucc n) = x at *
    have hl := hw.len
    have e := is_number_no ht (by omega) []
    have t1 : tl (cutS x none (some (1 : Int))) = [45] := by
      have := tl_cut0 x 1 (by rw [ht]; simp)
      rw [ht] at this
      exact this
    have t2 : tl (cutS x (some (1 : Int)) none) = numL (n + 1) := by
      have := tl_cut1 x 1 (by rw [ht]; simp)
      rw [ht] at this
      exact this
    have e2' := is_number_yes t2 (by omega) []
    have tm : tl (Str.ofString "-") = [45] := by decide +kernel
    have tm0 : tl (Str.ofString "-0") = [45, 48] := by decide +kernel
    have q1 : gEq (.str (cutS x none (some 1))) (.str (Str.ofString "-")) = some (.bl true) := by
      have : cutS x none (some 1) = Str.ofString "-" := ext_tl (by rw [t1, tm])
      rw [this, eqs (by unfold Sk; decide +kernel) (by unfold Sk; decide +kernel)]; simp
    have q2 : gNe (.str x) (.str (Str.ofString "-0")) = some (.bl true) := by
      rw [nes hw.sk (by unfold Sk; decide +kernel)]
      have : ¬ (x = Str.ofString "-0") := fun e => by
        have := congrArg tl e
        rw [ht, tm0] at this
        obtain ⟨c, r, hc, hne⟩ := numL_head (n + 1) (by omega)
        rw [hc] at this
        simp at this
        exact hne this.1
      rw [decide_eq_false this]; rfl
    have lx : x.length ≤ 16777216 := by omega
    have s1 : eSlice (eVar 0) (oNone) (oSome (eC (.int 1))) [.dat (.str x)] [] = .ok (.str (cutS x none (some 1))) [] := by
      simp [eSlice, eVar, oNone, oSome, eC, Rs.bind, gSlice, Rs.ofO, lx]
    have s2 : eSlice (eVar 0) (oSome (eC (.int 1))) (oNone) [.dat (.str x)] [] = .ok (.str (cutS x (some 1) none)) [] := by
      simp [eSlice, eVar, oNone, oSome, eC, Rs.bind, gSlice, Rs.ofO, lx]
    have key : F_is_signed [.dat (.str x)] [] = .rt (.bl true) [] := by
      refine sRet_ok (eOr_no (mu1 := []) ?_ (eAnd_go (mu1 := []) (e2_ok s1 rfl q1) (eAnd_go (mu1 := []) (e2_ok (mu1 := []) rfl rfl q2) ?_)))
      · simp only [eCall, lCons, rVar, lNil, Rs.bind, List.getElem?_cons_zero]
        exact e
      · simp only [eCall, lCons, rDat, lNil, Rs.bind, s2]
        exact e2'
    simp [m_is_signed, mirB, key, keepsAll]
theorem int_back {i : Int} (h0 : -1000000000000 ≤ i) (h1 : i ≤ 1000000000000) : gIntOf [.str (nS i)] = some (.int i) := by
  have hw := nS_wd h0 h1
  have hl := hw.len
  simp only [gIntOf]
  rw [if_pos (by omega)]
  cases i with
  | ofNat n =>
    have ht : tl (nS (Int.ofNat n)) = numL n := tl_num n
    have : intText? (nS (Int.ofNat n)) = some (n : Int) := int_num (by rw [← ht, ← len_tl]; omega)
    rw [this]; rfl
  | negSucc n =>
    have ht := tl_nS_neg n
    rw [PySem.intText_neg ht (numL_digits (n + 1)) (numL_ne _) (by omega), numL_val]; rfl
end K57
end DL

set_option maxHeartbeats 4000000
namespace DL
open PySem PySem.Spec PyProof.Rows L2 ClX TL
theorem sIf_no1 {c : FE} {f : FS} {rho : List Sl} {mu mu1 : List D} (h : c rho mu = .ok (.bl false) mu1) : sIf c f sNx rho mu = .nx rho mu1 := sIf_no h
theorem call1 {c : List Sl → List Sl → List D → Rs D} {f : FE} {rho : List Sl} {mu mu1 : List D} {d : D} {r : Rs D} (h : f rho mu = .ok d mu1) (h2 : c [.dat d] [] mu1 = r) : eCall c (lCons (rDat f) lNil) lNil rho mu = r := by
  simp only [eCall, lCons, rDat, lNil, Rs.bind, h, h2]
theorem call1v {c : List Sl → List Sl → List D → Rs D} {i : Nat} {rho : List Sl} {mu : List D} {d : D} {r : Rs D} (h : rho[i]? = some (.dat d)) (h2 : c [.dat d] [] mu = r) : eCall c (lCons (rVar i) lNil) lNil rho mu = r := by
  simp only [eCall, lCons, rVar, lNil, Rs.bind, h, h2]
namespace K57
theorem site_in_ok {r : Row} (hn : Nm r.n) (h : Rok r) (mu : List D) : c_site_in [.dat (.lst ((wordsR r).map .str))] [] mu = .ok (rowD r) mu := by
  refine cf1 (m' := []) ?_ mu
  have hw0 := h.w0; have hw1 := h.w1; have hl := h.l0; have hlh := h.lh; have hh := h.h1; have ha := h.a0; have ha1 := h.a1; have hb := h.b0; have hb1 := h.b1
  have i0 : gIx (.lst ((wordsR r).map .str)) (.int 0) = some (.str (Str.ofString "site")) := rfl
  have i1 : gIx (.lst ((wordsR r).map .str)) (.int 1) = some (.str r.n) := rfl
  have i2 : gIx (.lst ((wordsR r).map .str)) (.int 2) = some (.str (nS r.w)) := rfl
  have gl : gLen [.lst ((wordsR r).map .str)] = some (.int 7) := rfl
  have n7 : gNe (.int 7) (.int 7) = some (.bl false) := by rw [nei]; rfl
  have nsite : gNe (.str (Str.ofString "site")) (.str (Str.ofString "site")) = some (.bl false) := by
    rw [nes wd_site.sk wd_site.sk]; simp
  have sl3 : cutD ((wordsR r).map D.str) (some 3) none = [nS r.lo, nS r.hi, nS r.a, nS r.b].map .str := rfl
  have sl2 : cutD ((wordsR r).map D.str) (some 2) none = [nS r.w, nS r.lo, nS r.hi, nS r.a, nS r.b].map .str := rfl
  generalize (wordsR r).map D.str = L at *
  have num : ∀ i : Int, 0 ≤ i → i ≤ 1000000000000 → ∀ mu, c_is_number [.dat (.str (nS i))] [] mu = .ok (.bl true) mu := fun i h0 h1 mu => by
    obtain ⟨n, rfl⟩ := Int.eq_ofNat_of_zero_le h0
    exact is_number_yes (tl_nS_nat n) (by omega) mu
  have s3 : eSlice (eVar 0) (oSome (eC (.int 3))) (oNone) [.dat (.lst L), .no] [] = .ok (.lst ([nS r.lo, nS r.hi, nS r.a, nS r.b].map .str)) [] := by
    simp only [eSlice, eVar, oNone, oSome, eC, Rs.bind, gSlice, Rs.ofO, sl3, List.getElem?_cons_zero]
  have s2 : eSlice (eVar 0) (oSome (eC (.int 2))) (oNone) [.dat (.lst L), .no] [] = .ok (.lst ([nS r.w, nS r.lo, nS r.hi, nS r.a, nS r.b].map .str)) [] := by
    simp only [eSlice, eVar, oNone, oSome, eC, Rs.bind, gSlice, Rs.ofO, sl2, List.getElem?_cons_zero]
  have all3 : eA gAll (aCons (eLc (aIt (eSlice (eVar 0) (oSome (eC (.int 3))) (oNone))) (gN 1) (eC (.bl true)) (eCall c_is_number (lCons (rVar 1) (lNil)) (lNil)) [1]) (aNil)) [.dat (.lst L), .no] [] = .ok (.bl true) [] := by
    refine all_true (ds := [nS r.lo, nS r.hi, nS r.a, nS r.b].map .str) (by simp only [aIt, s3, Rs.bind, iterD, itemsD, Rs.ofO]) (fun d hd => ?_) (by simp)
    simp only [List.map_cons, List.map_nil, List.mem_cons, List.not_mem_nil, or_false] at hd
    rcases hd with rfl | rfl | rfl | rfl
    · exact call1v rfl (num _ (by omega) (by omega) [])
    · exact call1v rfl (num _ (by omega) (by omega) [])
    · exact call1v rfl (num _ (by omega) (by omega) [])
    · exact call1v rfl (num _ (by omega) (by omega) [])
  have intsE : eLc (aIt (eSlice (eVar 0) (oSome (eC (.int 2))) (oNone))) (gN 1) (eC (.bl true)) (eA gIntOf (aCons (eVar 1) (aNil))) [1] [.dat (.lst L), .no] [] = .ok (.lst [.int r.w, .int r.lo, .int r.hi, .int r.a, .int r.b]) [] := by
    simp only [eLc, aIt, s2, Rs.bind, iterD, itemsD, Rs.ofO]
    have st : ∀ i : Int, -1000000000000 ≤ i → i ≤ 1000000000000 → eA gIntOf (aCons (eVar 1) aNil) [.dat (.lst L), .dat (.str (nS i))] [] = .ok (.int i) [] := fun i h0 h1 => eA_ok (aCons_ok rfl rfl) (int_back h0 h1)
    simp [lcL, gN, wipeS, eC, st r.w (by omega) (by omega), st r.lo (by omega) (by omega), st r.hi (by omega) (by omega), st r.a (by omega) (by omega), st r.b (by omega) (by omega)]
  have key : F_site_in [.dat (.lst L), .no] [] = .rt (rowD r) [] := by
    refine seq_go (sIf_no (mu1 := []) (eOr_no (mu1 := []) ?_ (eOr_no (mu1 := []) ?_ (eOr_no (mu1 := []) ?_ ?_)))) (seq_go (sIf_no (eNot_ok all3)) (sRet_ok ?_))
    · exact e2_ok (mu1 := []) (eA_ok (mu1 := []) (aCons_ok (mu1 := []) rfl rfl) gl) rfl n7
    · exact e2_ok (mu1 := []) (e2_ok (mu1 := []) rfl rfl i0) rfl nsite
    · exact eNot_ok (b := true) (call1 (e2_ok (mu1 := []) rfl rfl i1) (is_name_ok hn []))
    · exact eNot_ok (b := true) (call1 (e2_ok (mu1 := []) rfl rfl i2) (is_signed_ok hw0 hw1 []))
    · refine eA_ok (mu1 := []) (aCons_ok (mu1 := []) (e2_ok (mu1 := []) rfl rfl i1) (aStar_ok intsE rfl)) ?_
      rfl
  simp [m_site_in, mirB, key, keepsAll]
theorem strangers_in_ok {gu : D} (h : GuOk gu) (mu : List D) : c_strangers_in [.dat (.lst ([Str.ofString "strangers", guS gu].map .str))] [] mu = .ok (.lst [gu]) mu := by
  refine cf1 (m' := []) ?_ mu
  have n2 : gNe (.int 2) (.int 2) = some (.bl false) := by rw [nei]; rfl
  have ns : gNe (.str (Str.ofString "strangers")) (.str (Str.ofString "strangers")) = some (.bl false) := by
    rw [nes wd_strangers.sk wd_strangers.sk]; simp
  have i1 : gIx (.lst ([Str.ofString "strangers", guS gu].map .str)) (.int 1) = some (.str (guS gu)) := rfl
  have key : F_strangers_in [.dat (.lst ([Str.ofString "strangers", guS gu].map .str))] [] = .rt (.lst [gu]) [] := by
    refine seq_go (sIf_no (mu1 := []) (eOr_no (mu1 := []) ?_ ?_)) ?_
    · exact e2_ok (a := .int 2) (mu1 := []) rfl rfl n2
    · exact e2_ok (a := .str (Str.ofString "strangers")) (mu1 := []) rfl rfl ns
    rcases h with rfl | ⟨i, rfl, h0, h1⟩
    · have : e2 gEq (e2 gIx (eVar 0) (eC (.int 1))) (eC (.str (Str.ofString "any"))) [.dat (.lst ([Str.ofString "strangers", guS .non].map .str))] [] = .ok (.bl true) [] := by
        refine e2_ok (mu1 := []) (e2_ok (mu1 := []) rfl rfl i1) rfl ?_
        rw [show guS .non = Str.ofString "any" from rfl, eqs wd_any.sk wd_any.sk]; simp
      unfold sSeq sIf
      rw [this]
      rfl
    · obtain ⟨n, rfl⟩ := Int.eq_ofNat_of_zero_le h0
      have ht := tl_nS_nat n
      have ib := int_back (i := (n : Int)) (by omega) (by omega)
      have nb := is_number_yes (x := nS (n : Int)) ht (by omega) []
      have wd := nS_wd (i := (n : Int)) (by omega) (by omega)
      have hi : guS (.int (n : Int)) = nS (n : Int) := rfl
      rw [hi] at i1 ⊢
      generalize nS (n : Int) = x at *
      have ne : gEq (.str x) (.str (Str.ofString "any")) = some (.bl false) := by
        rw [eqs wd.sk wd_any.sk]
        have : ¬ (x = Str.ofString "any") := fun e => by
          have ta : tl (Str.ofString "any") = [97, 110, 121] := by decide +kernel
          have := congrArg tl e
          rw [ht, ta] at this
          have := numL_digits n 97 (by rw [this]; simp)
          omega
        rw [decide_eq_false this]
      refine seq_go (sIf_no (mu1 := []) (e2_ok (mu1 := []) (e2_ok (mu1 := []) rfl rfl i1) rfl ne)) (sRet_ok ?_)
      have c1 : eCall c_is_number (lCons (rDat (e2 gIx (eVar 0) (eC (.int 1)))) (lNil)) (lNil) [.dat (.lst ([Str.ofString "strangers", x].map .str))] [] = .ok (.bl true) [] := call1 (e2_ok (mu1 := []) rfl rfl i1) nb
      simp only [eIf, c1, Rs.bind]
      exact eA_ok (mu1 := []) (aCons_ok (mu1 := []) (eA_ok (mu1 := []) (aCons_ok (mu1 := []) (e2_ok (mu1 := []) rfl rfl i1) rfl) ib) rfl) rfl
  simp [m_strangers_in, mirB] at key ⊢
  rw [key]
  simp [keepsAll]
section
variable {rs : List Row} {ws : List Str} {gu : D}
theorem sites_ok (mu : List D) : c_Scheme_sites [.dat (schD rs ws gu)] [] mu = .ok (.lst (rs.map rowD)) mu := by
  refine cf1 (m' := []) ?_ mu
  have a : eAttr [sS] (Str.ofString "parts") (rVar 0) [.dat (schD rs ws gu)] [] = .ok (.lst (rs.map rowD)) [] := by
    simp [eAttr, rVar, Rs.bind, objIn, schD, look_parts, Rs.ofO]
  have : F_Scheme_sites [.dat (schD rs ws gu)] [] = .rt (.lst (rs.map rowD)) [] := sRet_ok (eA_ok (aCons_ok a rfl) rfl)
  simp [m_Scheme_sites, mirB, this, keepsAll]
theorem names_ok (mu : List D) : c_Scheme_names [.dat (schD rs ws gu)] [] mu = .ok (.lst (ws.map .str)) mu := by
  refine cf1 (m' := []) ?_ mu
  have a : eAttr [sS] (Str.ofString "words") (rVar 0) [.dat (schD rs ws gu)] [] = .ok (.lst (ws.map .str)) [] := by
    simp [eAttr, rVar, Rs.bind, objIn, schD, look_words, Rs.ofO]
  have : F_Scheme_names [.dat (schD rs ws gu)] [] = .rt (.lst (ws.map .str)) [] := sRet_ok (eA_ok (aCons_ok a rfl) rfl)
  simp [m_Scheme_names, mirB, this, keepsAll]
theorem strangers_ok (mu : List D) : c_Scheme_strangers [.dat (schD rs ws gu)] [] mu = .ok gu mu := by
  refine cf1 (m' := []) ?_ mu
  have a : eAttr [sS] (Str.ofString "guests") (rVar 0) [.dat (schD rs ws gu)] [] = .ok gu [] := by
    simp [eAttr, rVar, Rs.bind, objIn, schD, look_guests, Rs.ofO]
  have : F_Scheme_strangers [.dat (schD rs ws gu)] [] = .rt gu [] := sRet_ok a
  simp [m_Scheme_strangers, mirB, this, keepsAll]
theorem e_sites {rho : List Sl} {mu : List D} (h : rho[0]? = some (.dat (schD rs ws gu))) : eMeth sS (Str.ofString "sites") (rVar 0) c_Scheme_sites lNil lNil rho mu = .ok (.lst (rs.map rowD)) mu := by
  have l := look_no rs ws gu (m := Str.ofString "sites") (by decide +kernel) (by decide +kernel) (by decide +kernel)
  have c := sites_ok (rs := rs) (ws := ws) (gu := gu) mu
  simp only [eMeth, rVar, h, Rs.bind]
  simp only [schD, objIn] at c ⊢
  rw [if_pos ⟨trivial, l⟩]
  simp only [lNil, Rs.bind]
  exact c
theorem e_names {rho : List Sl} {mu : List D} (h : rho[0]? = some (.dat (schD rs ws gu))) : eMeth sS (Str.ofString "names") (rVar 0) c_Scheme_names lNil lNil rho mu = .ok (.lst (ws.map .str)) mu := by
  have l := look_no rs ws gu (m := Str.ofString "names") (by decide +kernel) (by decide +kernel) (by decide +kernel)
  have c := names_ok (rs := rs) (ws := ws) (gu := gu) mu
  simp only [eMeth, rVar, h, Rs.bind]
  simp only [schD, objIn] at c ⊢
  rw [if_pos ⟨trivial, l⟩]
  simp only [lNil, Rs.bind]
  exact c
theorem e_guests {rho : List Sl} {mu : List D} (h : rho[0]? = some (.dat (schD rs ws gu))) : eSpec sS c_Scheme_strangers (rVar 0) some rho mu = .ok gu mu := by
  have c := strangers_ok (rs := rs) (ws := ws) (gu := gu) mu
  simp only [eSpec, rVar, h, Rs.bind]
  simp only [schD, objIn, if_pos] at c ⊢
  rw [c]; rfl
theorem lines_sch (h : Wr rs ws gu) (mu : List D) : c_scheme_lines [.dat (schD rs ws gu)] [] mu = .ok (linesD rs ws gu) mu := by
  refine cf1 (m' := []) ?_ mu
  have r1 := h.r1
  have w1 := h.w1
  have gl := (guS_wd h.g).len
  have key : F_scheme_lines [.dat (schD rs ws gu), .no, .no, .no, .no] [] = .rt (linesD rs ws gu) [] := by
    have e1' := fun rho hr => e_sites (rs := rs) (ws := ws) (gu := gu) (rho := rho) (mu := []) hr
    have e2' := fun rho hr => e_names (rs := rs) (ws := ws) (gu := gu) (rho := rho) (mu := []) hr
    have e3' := fun rho hr => e_guests (rs := rs) (ws := ws) (gu := gu) (rho := rho) (mu := []) hr
    generalize schD rs ws gu = S at *
    refine seq_go (sSet_ok (d := .lst ((rs.map lineR).map .str)) (mu1 := []) ?_) ?_
    · have := lc_eq (it := aIt (eMeth sS (Str.ofString "sites") (rVar 0) c_Scheme_sites lNil lNil)) (i := 3) (f := eM1 gJoin (eC (.str (Str.ofString " "))) (eA gLst (aCons (eC (.str (Str.ofString "site"))) (aStar (eLc (aIt (eVar 3)) (gN 4) (eC (.bl true)) (eA gStrOf (aCons (eVar 4) (aNil))) [4]) (aNil))))) (vs := [3]) (rho := [.dat S, .no, .no, .no, .no]) (mu := []) (ds := rs.map rowD)
        (k := fun d => match d with | .tup [.str n, .int w, .int lo, .int hi, .int a, .int b] => .str (lineR ⟨n, w, lo, hi, a, b⟩) | d => d)
        (by simp only [aIt, e1' [.dat S, .no, .no, .no, .no] rfl, Rs.bind, iterD, itemsD, Rs.ofO])
        (fun d hd => by
          obtain ⟨r, hr, rfl⟩ := List.mem_map.mp hd
          have hl := row_lc (r := r) (h.rok r hr) (it := aIt (eVar 3)) (rho := [.dat S, .no, .no, .dat (rowD r), .no]) (mu := []) (j := 4) (by simp) (by simp [aIt, eVar, Rs.bind, iterD, itemsD, rowD, Rs.ofO])
          have hj := row_join (h.rnm r hr) (h.rok r hr)
          show eM1 gJoin (eC (.str sp)) _ [.dat S, .no, .no, .dat (rowD r), .no] [] = .ok (.str (lineR r)) []
          exact eM1_ok (mu1 := []) rfl (eA_ok (mu1 := []) (aCons_ok (mu1 := []) rfl (aStar_ok hl rfl)) rfl) hj) (by simp; omega)
      rw [this]
      simp [rowD, Function.comp_def]
    refine seq_go (sSet_ok (d := .str (guS gu)) (mu1 := []) ?_) (sRet_ok ?_)
    · show eIf _ _ _ [.dat S, .dat (.lst ((rs.map lineR).map .str)), .no, .no, .no] [] = _
      rcases h.g with rfl | ⟨i, rfl, i0, i1⟩
      · simp only [eIf, e2, e3' [.dat S, .dat (.lst ((rs.map lineR).map .str)), .no, .no, .no] rfl, eC, Rs.bind, any_is, Rs.ofO, guS]
      · simp only [eIf, e2, e3' [.dat S, .dat (.lst ((rs.map lineR).map .str)), .no, .no, .no] rfl, eC, Rs.bind, int_is, Rs.ofO, guS, eA, aCons, aNil, str_gu i0 i1]
    · show eA gLst _ [.dat S, .dat (.lst ((rs.map lineR).map .str)), .dat (.str (guS gu)), .no, .no] [] = _
      have hs : jsD [eC (.str (Str.ofString "strangers ")), e1 gFmt (eVar 2)] Str.empty [.dat S, .dat (.lst ((rs.map lineR).map .str)), .dat (.str (guS gu)), .no, .no] [] = .ok (.str (lineS gu)) [] := by
        have l0 : (Str.empty ++ Str.ofString "strangers ") = Str.ofString "strangers " := by decide +kernel
        have ls := len_strangers
        have hlen : (Str.ofString "strangers " ++ guS gu).length ≤ 16777216 := by
          rw [len_tl, tl_append, List.length_append, ← len_tl, ← len_tl, ls]; omega
        have g1 : gFmt (.str (guS gu)) = some (.str (guS gu)) := by simp only [gFmt]; rw [if_pos (by omega)]
        simp only [jsD, eC, Rs.bind, l0, ls, e1, eVar, List.getElem?_cons_succ, List.getElem?_cons_zero, g1, Rs.ofO]
        rw [if_pos (by omega), if_pos hlen, lineS_eq]
      refine eA_ok (mu1 := []) (aStar_ok (mu1 := []) rfl (aCons_ok (mu1 := []) (eM1_ok (mu1 := []) rfl (eA_ok (mu1 := []) (aCons_ok (mu1 := []) rfl (aStar_ok (e2' _ rfl) rfl)) (c := .lst (.str (Str.ofString "items") :: ws.map .str)) ?_) h.itm) (aCons_ok hs rfl))) ?_
      · simp only [gLst, List.append_nil]
        rw [if_pos (by simp; omega)]
      · simp only [gLst]
        rw [if_pos (by simp; omega)]
        simp [linesD, lines]
  simp [m_scheme_lines, mirB, key, keepsAll]
theorem text_sch (h : Wr rs ws gu) (mu : List D) : c_scheme_text [.dat (schD rs ws gu)] [] mu = .ok (.str (txt rs ws gu)) mu := by
  refine cf1 (m' := []) ?_ mu
  have key : F_scheme_text [.dat (schD rs ws gu)] [] = .rt (.str (txt rs ws gu)) [] := sRet_ok (eM1_ok (mu1 := []) rfl (call1v rfl (lines_sch h [])) h.txt_join)
  simp [m_scheme_text, mirB, key, keepsAll]
theorem text_sch_k (h : Wr rs ws gu) (mu : List D) : c_scheme_text_0_scheme [] [.dat (schD rs ws gu)] mu = .ok (.str (txt rs ws gu)) mu := by
  have := text_sch h mu
  simpa [c_scheme_text, c_scheme_text_0_scheme, cFn, srcS] using this
end
end K57
end DL

set_option maxHeartbeats 4000000
namespace DL
open PySem PySem.Spec PyProof.Rows L2 ClX TL
theorem gsp {ws : List Str} (h : ∀ w ∈ ws, Wd w) (hl : ws.length ≤ 7) (hne : ws ≠ []) {x : FE} {rho : List Sl} {mu mu1 : List D} (hx : x rho mu = .ok (.str (Txt.join sp ws)) mu1) : eM1 gSplit x (eC (.str (Str.ofString " "))) rho mu = .ok (.lst (ws.map .str)) mu1 :=
  eM1_ok hx rfl (line_split h hl hne)
theorem sIf_dead {c : FE} {g : FS} {rho : List Sl} {mu mu1 : List D} {z : Rst} (h : c rho mu = .ok (.bl false) mu1) (hg : g rho mu1 = z) : sIf c sNever g rho mu = z := by
  simp only [sIf, h, rBind, hg]
theorem at_head {α : Type} (x : α) (xs : List α) : atI (x :: xs) 0 = some x := by
  have : (0 : Int) < ((x :: xs).length : Nat) := by simp
  unfold atI ixN
  rw [if_pos (by omega), if_pos this]; rfl
section
variable {rs : List Row} {ws : List Str} {gu : D}
theorem lines_at {pre post : List Row} {r : Row} (e : rs = pre ++ r :: post) : gIx (linesD rs ws gu) (.int (pre.length : Int)) = some (.str (lineR r)) := by
  have h := K57.atI_pre ((pre.map lineR).map D.str) (.str (lineR r)) ((post.map lineR ++ [lineI ws, lineS gu]).map .str)
  rw [List.length_map, List.length_map] at h
  show atI ((lines rs ws gu).map D.str) _ = _
  have : (lines rs ws gu).map D.str = (pre.map lineR).map D.str ++ .str (lineR r) :: (post.map lineR ++ [lineI ws, lineS gu]).map .str := by
    rw [e]; simp [lines]
  rw [this]; exact h
theorem lines_atI : gIx (linesD rs ws gu) (.int (rs.length : Int)) = some (.str (lineI ws)) := by
  have h := K57.atI_pre ((rs.map lineR).map D.str) (.str (lineI ws)) [.str (lineS gu)]
  rw [List.length_map, List.length_map] at h
  show atI ((lines rs ws gu).map D.str) _ = _
  have : (lines rs ws gu).map D.str = (rs.map lineR).map D.str ++ .str (lineI ws) :: [.str (lineS gu)] := by simp [lines]
  rw [this]; exact h
theorem lines_atS : gIx (linesD rs ws gu) (.int ((rs.length : Int) + 1)) = some (.str (lineS gu)) := by
  have h := K57.atI_pre ((rs.map lineR).map D.str ++ [.str (lineI ws)]) (.str (lineS gu)) []
  rw [List.length_append, List.length_map, List.length_map] at h
  show atI ((lines rs ws gu).map D.str) _ = _
  have : (lines rs ws gu).map D.str = ((rs.map lineR).map D.str ++ [.str (lineI ws)]) ++ .str (lineS gu) :: [] := by simp [lines]
  rw [this]; exact h
theorem lines_len : gLen [linesD rs ws gu] = some (.int ((rs.length : Int) + 2)) := by
  show some (D.int (((lines rs ws gu).map D.str).length : Int)) = _
  simp [lines]
namespace K57
theorem rows_while (h : Wr rs ws gu) : ∀ (post pre : List Row) (fuel : Nat) (u : Sl), rs = pre ++ post → post.length < fuel → ∃ u', sWhile (eAnd (e2 gLt (eVar 2) (eA gLen (aCons (eVar 0) (aNil)))) (e2 gNe (e2 gIx (eM1 gSplit (e2 gIx (eVar 0) (eVar 2)) (eC (.str (Str.ofString " ")))) (eC (.int 0))) (eC (.str (Str.ofString "items"))))) (sSeq (sSet 3 (eCall c_site_in (lCons (rDat (eM1 gSplit (e2 gIx (eVar 0) (eVar 2)) (eC (.str (Str.ofString " "))))) (lNil)) (lNil))) (sSeq (sIf (e2 gIs (eVar 3) (eC .non)) (sNever) (sNx)) (sSeq (sMut 1 gAppend (aCons (eVar 3) (aNil))) (sAug 2 (fun i j => i + j) (eC (.int 1)))))) fuel
    [.dat (linesD rs ws gu), .own 0, .dat (.int pre.length), u, .no, .no, .no, .no] [.lst (pre.map rowD)] = .nx [.dat (linesD rs ws gu), .own 0, .dat (.int rs.length), u', .no, .no, .no, .no] [.lst (rs.map rowD)] := by
  intro post
  have wI := h.wI
  have w1 := h.w1
  have r1 := h.r1
  induction post with
  | nil =>
    intro pre fuel u e hf
    obtain ⟨n, rfl⟩ : ∃ n, fuel = n + 1 := ⟨fuel - 1, by simp at hf; omega⟩
    have ep : pre = rs := by rw [e]; simp
    subst ep
    refine ⟨u, ?_⟩
    have a := lines_atI (rs := pre) (ws := ws) (gu := gu)
    have l := lines_len (rs := pre) (ws := ws) (gu := gu)
    generalize linesD pre ws gu = L at *
    have s := gsp wI (by simp; omega) (by simp) (x := e2 gIx (eVar 0) (eVar 2)) (rho := [.dat L, .own 0, .dat (.int pre.length), u, .no, .no, .no, .no]) (mu := [.lst (pre.map rowD)]) (mu1 := [.lst (pre.map rowD)]) (e2_ok (mu1 := [.lst (pre.map rowD)]) rfl rfl a)
    have ne : gNe (.str (Str.ofString "items")) (.str (Str.ofString "items")) = some (.bl false) := by rw [nes wd_items.sk wd_items.sk]; simp
    have c : eAnd (e2 gLt (eVar 2) (eA gLen (aCons (eVar 0) (aNil)))) (e2 gNe (e2 gIx (eM1 gSplit (e2 gIx (eVar 0) (eVar 2)) (eC (.str (Str.ofString " ")))) (eC (.int 0))) (eC (.str (Str.ofString "items")))) [.dat L, .own 0, .dat (.int pre.length), u, .no, .no, .no, .no] [.lst (pre.map rowD)] = .ok (.bl false) [.lst (pre.map rowD)] := by
      refine eAnd_go (mu1 := [.lst (pre.map rowD)]) (e2_ok (mu1 := [.lst (pre.map rowD)]) (mu2 := [.lst (pre.map rowD)]) (a := .int pre.length) (b := .int (pre.length + 2)) rfl (eA_ok (mu1 := [.lst (pre.map rowD)]) (aCons_ok (mu1 := [.lst (pre.map rowD)]) rfl rfl) l) ?_) (e2_ok (e2_ok (a := .lst ((Str.ofString "items" :: ws).map .str)) s rfl (at_head _ _)) rfl ne)
      simp [gLt]; omega
    simp only [sWhile, c, rBind]
  | cons r post ih =>
    intro pre fuel u e hf
    obtain ⟨n, rfl⟩ : ∃ n, fuel = n + 1 := ⟨fuel - 1, by simp at hf; omega⟩
    have hr : r ∈ rs := by rw [e]; simp
    obtain ⟨u', hu⟩ := ih (pre ++ [r]) n (.dat (rowD r)) (by rw [e]; simp) (by simp at hf; omega)
    refine ⟨u', ?_⟩
    have a := lines_at (rs := rs) (ws := ws) (gu := gu) e
    have l := lines_len (rs := rs) (ws := ws) (gu := gu)
    have el : rs.length = pre.length + (post.length + 1) := by rw [e]; simp
    have pl : (pre.map rowD).length < 16777216 := by simp; omega
    rw [List.map_append, List.length_append] at hu
    generalize linesD rs ws gu = L at *
    generalize hM : pre.map rowD = M at *
    have s := gsp (wordsR_wd (h.rnm r hr) (h.rok r hr)) (by simp [wordsR]) (by simp [wordsR]) (x := e2 gIx (eVar 0) (eVar 2)) (rho := [.dat L, .own 0, .dat (.int pre.length), u, .no, .no, .no, .no]) (mu := [.lst M]) (mu1 := [.lst M]) (e2_ok (mu1 := [.lst M]) rfl rfl a)
    have ne : gNe (.str (Str.ofString "site")) (.str (Str.ofString "items")) = some (.bl true) := by
      rw [nes wd_site.sk wd_items.sk]
      have : ¬ (Str.ofString "site" = Str.ofString "items") := by decide +kernel
      rw [decide_eq_false this]; rfl
    have c : eAnd (e2 gLt (eVar 2) (eA gLen (aCons (eVar 0) (aNil)))) (e2 gNe (e2 gIx (eM1 gSplit (e2 gIx (eVar 0) (eVar 2)) (eC (.str (Str.ofString " ")))) (eC (.int 0))) (eC (.str (Str.ofString "items")))) [.dat L, .own 0, .dat (.int pre.length), u, .no, .no, .no, .no] [.lst M] = .ok (.bl true) [.lst M] := by
      refine eAnd_go (mu1 := [.lst M]) (e2_ok (mu1 := [.lst M]) (mu2 := [.lst M]) (a := .int pre.length) (b := .int (rs.length + 2)) rfl (eA_ok (mu1 := [.lst M]) (aCons_ok (mu1 := [.lst M]) rfl rfl) l) ?_) (e2_ok (e2_ok (a := .lst ((wordsR r).map .str)) s rfl rfl) rfl ne)
      simp [gLt]; omega
    have b : (sSeq (sSet 3 (eCall c_site_in (lCons (rDat (eM1 gSplit (e2 gIx (eVar 0) (eVar 2)) (eC (.str (Str.ofString " "))))) (lNil)) (lNil))) (sSeq (sIf (e2 gIs (eVar 3) (eC .non)) (sNever) (sNx)) (sSeq (sMut 1 gAppend (aCons (eVar 3) (aNil))) (sAug 2 (fun i j => i + j) (eC (.int 1)))))) [.dat L, .own 0, .dat (.int pre.length), u, .no, .no, .no, .no] [.lst M] =
        .nx [.dat L, .own 0, .dat (.int (pre.length + 1)), .dat (rowD r), .no, .no, .no, .no] [.lst (M ++ [rowD r])] := by
      refine seq_go (sSet_ok (call1 s (site_in_ok (h.rnm r hr) (h.rok r hr) [.lst M]))) (seq_go (sIf_no (mu1 := [.lst M]) (e2_ok (a := rowD r) (b := .non) (mu1 := [.lst M]) rfl rfl rfl)) ?_)
      simp [sSeq, sMut, listAt, aCons, aNil, eVar, Rs.bind, rBind, gAppend, pl, sAug, eC]
    simp only [sWhile, c, rBind, b]
    have : ((pre.length + [r].length : Nat) : Int) = (pre.length : Int) + 1 := by simp
    rw [this] at hu
    exact hu
theorem parts_ok (h : Wr rs ws gu) (mu : List D) : c_scheme_parts [.dat (linesD rs ws gu)] [] mu = .ok (.tup [.lst (rs.map rowD), .lst (ws.map .str), gu, .int ((rs.length : Int) + 2)]) mu := by
  refine cf1 (m' := []) ?_ mu
  obtain ⟨u, hw⟩ := rows_while h rs [] 16 .no rfl (by have := h.r1; omega)
  have aI := lines_atI (rs := rs) (ws := ws) (gu := gu)
  have aS := lines_atS (rs := rs) (ws := ws) (gu := gu)
  have l := lines_len (rs := rs) (ws := ws) (gu := gu)
  have w1 := h.w1
  have r1 := h.r1
  generalize linesD rs ws gu = L at *
  generalize hM : rs.map rowD = M at *
  have key : F_scheme_parts [.dat L, .no, .no, .no, .no, .no, .no, .no] [] = .rt (.tup [.lst M, .lst (ws.map .str), gu, .int ((rs.length : Int) + 2)]) [.non] := by
    refine seq_go (r := [.dat L, .own 0, .dat (.int 0), .no, .no, .no, .no, .no]) (m := [.lst []]) (by simp [sParX, xNew, xDat, xNil, eA, aNil, gLst, eC, Rs.bind, Rs.ofO, rBind]) ?_
    refine seq_go hw ?_
    refine seq_go (r := [.dat L, .own 0, .dat (.int rs.length), u, .no, .no, .no, .no]) (m := [.lst M]) (sIf_dead (mu1 := [.lst M]) (e2_ok (a := .int rs.length) (b := .int ((rs.length : Int) + 2)) (mu1 := [.lst M]) rfl (eA_ok (mu1 := [.lst M]) (aCons_ok (mu1 := [.lst M]) rfl rfl) l) (by simp [gGe]; omega)) rfl) ?_
    have s := gsp h.wI (by simp; omega) (by simp) (x := e2 gIx (eVar 0) (eVar 2)) (rho := [.dat L, .own 0, .dat (.int rs.length), u, .no, .no, .no, .no]) (mu := [.lst M]) (mu1 := [.lst M]) (e2_ok (mu1 := [.lst M]) rfl rfl aI)
    refine seq_go (r := [.dat L, .own 0, .dat (.int rs.length), u, .dat (.str (Str.ofString "items")), .dat (.lst (ws.map .str)), .no, .no]) (m := [.lst M]) ?_ ?_
    · have hl : ws.length < 16384 := by omega
      simp only [sStar, s, rBind, itemsD, List.map_cons]
      simp [isLst, hl]
    have hall : eA gAll (aCons (eLc (aIt (eVar 5)) (gN 7) (eC (.bl true)) (eCall c_is_name (lCons (rVar 7) (lNil)) (lNil)) [7]) (aNil)) [.dat L, .own 0, .dat (.int rs.length), u, .dat (.str (Str.ofString "items")), .dat (.lst (ws.map .str)), .no, .no] [.lst M] = .ok (.bl true) [.lst M] := by
      refine all_true (ds := ws.map .str) (by simp [aIt, eVar, Rs.bind, iterD, itemsD, Rs.ofO]) (fun d hd => ?_) (by simp; omega)
      obtain ⟨x, hx, rfl⟩ := List.mem_map.mp hd
      exact call1v rfl (is_name_ok (h.wnm x hx) [.lst M])
    refine seq_go (sIf_dead (eNot_ok hall) rfl) ?_
    refine seq_go (r := [.dat L, .own 0, .dat (.int rs.length), u, .dat (.str (Str.ofString "items")), .dat (.lst (ws.map .str)), .dat (.lst [gu]), .no]) (m := [.lst M]) (sSet_ok ?_) ?_
    · have s2 := gsp h.wS (by simp) (by simp) (x := e2 gIx (eVar 0) (e2 gAdd (eVar 2) (eC (.int 1)))) (rho := [.dat L, .own 0, .dat (.int rs.length), u, .dat (.str (Str.ofString "items")), .dat (.lst (ws.map .str)), .no, .no]) (mu := [.lst M]) (mu1 := [.lst M]) (e2_ok (mu1 := [.lst M]) rfl (e2_ok (a := .int rs.length) (b := .int 1) (mu1 := [.lst M]) rfl rfl rfl) aS)
      have c : e2 gLt (e2 gAdd (eVar 2) (eC (.int 1))) (eA gLen (aCons (eVar 0) (aNil))) [.dat L, .own 0, .dat (.int rs.length), u, .dat (.str (Str.ofString "items")), .dat (.lst (ws.map .str)), .no, .no] [.lst M] = .ok (.bl true) [.lst M] :=
        e2_ok (a := .int (rs.length + 1)) (b := .int ((rs.length : Int) + 2)) (mu1 := [.lst M]) (e2_ok (a := .int rs.length) (b := .int 1) (mu1 := [.lst M]) rfl rfl rfl) (eA_ok (mu1 := [.lst M]) (aCons_ok (mu1 := [.lst M]) rfl rfl) l) (by simp [gLt])
      simp only [eIf, c, Rs.bind]
      exact call1 s2 (strangers_in_ok h.g [.lst M])
    refine seq_go (sIf_dead (mu1 := [.lst M]) (e2_ok (a := .lst [gu]) (b := .non) (mu1 := [.lst M]) rfl rfl rfl) rfl) ?_
    have a0 : atI [gu] 0 = some gu := rfl
    cases u <;> simp [sFrz, frzS, sRet, eA, gTup, aCons, aNil, eVar, e2, eC, gIx, a0, gAdd, Rs.bind, Rs.ofO, rBind]
  simp [m_scheme_parts, mirB, key, keepsAll]
/-- what a text is read back to -/
structure Rd (rs : List Row) (ws : List Str) (gu : D) : Prop extends Wr rs ws gu where
  r0 : 1 ≤ rs.length
  rnd : (rs.map Row.n).Nodup
  w0 : 1 ≤ ws.length
  wnd : ws.Nodup
theorem Rd.mk_c (h : Rd rs ws gu) (mu : List D) : cMk sS c_Scheme_dinit_3_strangers [.dat (.lst (rs.map rowD)), .dat (.lst (ws.map .str))] [.dat gu] mu = .ok (schD rs (sortS ws) gu) mu :=
  mk_ok h.rok h.rnm h.rnd h.r0 (by have := h.r1; omega) h.wnm h.wnd h.w0 (by have := h.w1; omega) h.g mu
theorem read_ok (h : Rd rs ws gu) (mu : List D) : c_read_scheme [.dat (.str (txt rs ws gu))] [] mu = .ok (schD rs (sortS ws) gu) mu := by
  refine cf1 (m' := []) ?_ mu
  have s := h.txt_split
  have p := parts_ok h.toWr []
  have m := h.mk_c []
  have l := lines_len (rs := rs) (ws := ws) (gu := gu)
  generalize linesD rs ws gu = L at *
  generalize rs.map rowD = M at *
  have key : F_read_scheme [.dat (.str (txt rs ws gu)), .no, .no, .no, .no, .no] [] = .rt (schD rs (sortS ws) gu) [] := by
    refine seq_go (sSet_ok (d := L) (mu1 := []) (eM1_ok (mu1 := []) rfl rfl s)) ?_
    refine seq_go (r := [.dat (.str (txt rs ws gu)), .dat L, .dat (.lst M), .dat (.lst (ws.map .str)), .dat gu, .dat (.int ((rs.length : Int) + 2))]) (m := []) ?_ ?_
    · have c : eCall c_scheme_parts (lCons (rVar 1) (lNil)) (lNil) [.dat (.str (txt rs ws gu)), .dat L, .no, .no, .no, .no] [] = .ok (.tup [.lst M, .lst (ws.map .str), gu, .int ((rs.length : Int) + 2)]) [] := call1v rfl p
      show sTgt _ _ [.dat (.str (txt rs ws gu)), .dat L, .no, .no, .no, .no] [] = _
      simp only [sTgt, c, rBind]
      rfl
    refine seq_go (sIf_dead (mu1 := []) (e2_ok (a := .int ((rs.length : Int) + 2)) (b := .int ((rs.length : Int) + 2)) (mu1 := []) rfl (eA_ok (mu1 := []) (aCons_ok (mu1 := []) rfl rfl) l) (by simp [gLt])) rfl) (sRet_ok ?_)
    simp only [eCall, lCons, rVar, lNil, Rs.bind, List.getElem?_cons_succ, List.getElem?_cons_zero]
    exact m
  simp [m_read_scheme, mirB, key, keepsAll]
theorem read_ok_k (h : Rd rs ws gu) (mu : List D) : c_read_scheme_0_text [] [.dat (.str (txt rs ws gu))] mu = .ok (schD rs (sortS ws) gu) mu := by
  have := read_ok h mu
  simpa [c_read_scheme, c_read_scheme_0_text, cFn, srcS] using this
end K57
end
end DL

set_option maxHeartbeats 4000000
namespace DL
open PySem PySem.Spec PyProof.Rows L2 ClX TL
/-- small data of plain signs -/
inductive Tm : Nat → PyData → Prop
  | non {n : Nat} : Tm n .none
  | int {n : Nat} (i : Int) (h0 : -1000 ≤ i) (h1 : i ≤ 1000000000000) : Tm n (.int i)
  | str {n : Nat} (x : Str) (hc : ∀ c ∈ tl x, c < 128) (hl : x.length ≤ 600) : Tm n (.str x)
  | list {n : Nat} (xs : List PyData) (h : ∀ x ∈ xs, Tm n x) (hl : xs.length ≤ 7) : Tm (n + 1) (.list xs)
  | tup {n : Nat} (xs : List PyData) (h : ∀ x ∈ xs, Tm n x) (hl : xs.length ≤ 7) : Tm (n + 1) (.tuple xs)
def tmW : Nat → Nat
  | 0 => 600
  | n + 1 => 7 * (tmW n + 1)
theorem tmW_ge : ∀ n, 600 ≤ tmW n
  | 0 => Nat.le_refl _
  | n + 1 => by have := tmW_ge n; show 600 ≤ 7 * (tmW n + 1); omega
theorem weightAll_le (k : Nat) : ∀ xs : List PyData, (∀ x ∈ xs, x.weight ≤ k) → PyData.weightAll xs ≤ xs.length * (k + 1)
  | [], _ => by simp [PyData.weightAll]
  | x :: xs, h => by
    have h1 := h x List.mem_cons_self
    have h2 := weightAll_le k xs fun y hy => h y (List.mem_cons_of_mem _ hy)
    simp only [PyData.weightAll, List.length_cons, Nat.add_mul]
    omega
theorem depthAll_le (k : Nat) : ∀ xs : List PyData, (∀ x ∈ xs, x.depth ≤ k) → PyData.depthAll xs ≤ k
  | [], _ => by simp [PyData.depthAll]
  | x :: xs, h => by
    have h1 := h x List.mem_cons_self
    have h2 := depthAll_le k xs fun y hy => h y (List.mem_cons_of_mem _ hy)
    simp only [PyData.depthAll]
    omega
theorem showAll_of : ∀ xs : List PyData, (∀ x ∈ xs, x.showable = true) → PyData.showableAll xs = true
  | [], _ => by simp [PyData.showableAll]
  | x :: xs, h => by simp [PyData.showableAll, h x List.mem_cons_self, showAll_of xs fun y hy => h y (List.mem_cons_of_mem _ hy)]
theorem dictAll_of : ∀ xs : List PyData, (∀ x ∈ xs, x.hasDict = false) → PyData.hasDictAll xs = false
  | [], _ => by simp [PyData.hasDictAll]
  | x :: xs, h => by simp [PyData.hasDictAll, h x List.mem_cons_self, dictAll_of xs fun y hy => h y (List.mem_cons_of_mem _ hy)]
theorem layAll_of : ∀ xs : List PyData, (∀ x ∈ xs, x.canLay0 = true) → PyData.canLayAll0 xs = true
  | [], _ => by simp [PyData.canLayAll0]
  | x :: xs, h => by simp [PyData.canLayAll0, h x List.mem_cons_self, layAll_of xs fun y hy => h y (List.mem_cons_of_mem _ hy)]
theorem shortAll_of : ∀ xs : List PyData, (∀ x ∈ xs, x.intsShort 13 = true) → PyData.intsShortAll 13 xs = true
  | [], _ => by simp [PyData.intsShortAll]
  | x :: xs, h => by simp [PyData.intsShortAll, h x List.mem_cons_self, shortAll_of xs fun y hy => h y (List.mem_cons_of_mem _ hy)]
theorem repr_chars : ∀ q ∈ [34, 39], ∀ c < 128, ∀ d ∈ Builtin.Str.reprChar q c, d < 1114112 := by decide +kernel
theorem foldl_repr (q : Nat) : ∀ (l : List Nat) (acc : Array Nat), (∀ c ∈ l, ∀ d ∈ Builtin.Str.reprChar q c, d < 1114112) → (∀ d ∈ acc.toList, d < 1114112) → ∀ d ∈ (l.foldl (fun out c => out ++ (Builtin.Str.reprChar q c).toArray) acc).toList, d < 1114112
  | [], acc, _, h => h
  | c :: r, acc, hc, h => by
    refine foldl_repr q r _ (fun e he => hc e (List.mem_cons_of_mem _ he)) fun d hd => ?_
    rw [Array.toList_append] at hd
    rcases List.mem_append.mp hd with z | z
    · exact h d z
    · exact hc c List.mem_cons_self d (by simpa using z)
theorem repr_sk {x : Str} (h : ∀ c ∈ tl x, c < 128) : Sk (reprText x) := by
  have hq : reprQuote x ∈ [34, 39] := by unfold reprQuote; split <;> simp
  have hq2 : reprQuote x < 1114112 := by unfold reprQuote; split <;> omega
  intro c hc
  unfold reprText at hc
  have hc' : c ∈ ((x.cps.foldl (fun out c => out ++ (Builtin.Str.reprChar (reprQuote x) c).toArray) #[reprQuote x]).push (reprQuote x)).toList := hc
  rw [← Array.foldl_toList, Array.toList_push] at hc'
  rcases List.mem_append.mp hc' with z | z
  · exact foldl_repr (reprQuote x) x.cps.toList #[reprQuote x] (fun e he d hd => repr_chars _ hq e (h e he) d hd) (fun d hd => by simp at hd; omega) c z
  · simp at z; omega
theorem shown_list_sk {xs : List PyData} (o c : Str) (ho : Sk o) (hc : Sk c) (h : ∀ x ∈ xs, Sk x.shown) : Sk (o ++ Str.join ", " (PyData.shownAll xs) ++ c) := by
  intro k hk
  rw [tl_append, tl_append, tl_join] at hk
  rcases List.mem_append.mp hk with z | z
  · rcases List.mem_append.mp z with z | z
    · exact ho k z
    · rcases joinL_mem _ _ z with z | ⟨p, hp, z⟩
      · have : tl (", " : Str) = [44, 32] := by decide +kernel
        rw [this] at z; simp at z; omega
      · obtain ⟨w, hw, rfl⟩ := List.mem_map.mp hp
        rw [shownAll_eq_map] at hw
        obtain ⟨y, hy, rfl⟩ := List.mem_map.mp hw
        exact h y hy k z
  · exact hc k z
theorem nS_len13 {i : Int} (h0 : -1000 ≤ i) (h1 : i ≤ 1000000000000) : (nS i).length ≤ 13 := by
  have e : (10 : Nat) ^ 13 = 10000000000000 := by decide
  have e4 : (10 : Nat) ^ 4 = 10000 := by decide
  cases i with
  | ofNat n =>
    have ht : tl (nS (Int.ofNat n)) = numL n := tl_num n
    have := numL_len (n := n) (k := 13) (by decide) (by rw [e]; have : (n : Int) ≤ 1000000000000 := h1; omega)
    rw [len_tl, ht]; omega
  | negSucc n =>
    have := numL_len (n := n + 1) (k := 4) (by decide) (by rw [e4]; omega)
    rw [len_tl, tl_nS_neg n, List.length_cons]; omega
theorem Tm.facts {n : Nat} {d : PyData} (t : Tm n d) : d.weight ≤ tmW n ∧ d.depth ≤ n + 1 ∧ d.showable = true ∧ d.hasDict = false ∧ d.canLay0 = true ∧ d.intsShort 13 = true ∧ Sk d.shown := by
  induction t with
  | non => exact ⟨by simp [PyData.weight], by simp [PyData.depth], by simp [PyData.showable], by simp [PyData.hasDict], by simp [PyData.canLay0], by simp [PyData.intsShort], by rw [PyData.shown_none]; unfold Sk; decide +kernel⟩
  | @int n i h0 h1 =>
    have hw := tmW_ge n
    have lg : i.natAbs.log2 < 1920 := log_ok (by omega)
    have lg2 : i.natAbs.log2 + 1 ≤ 600 := by
      by_cases e : i.natAbs = 0
      · rw [e]; decide
      · have : i.natAbs.log2 < 40 := (Nat.log2_lt e).mpr (by have : (2:Nat) ^ 40 = 1099511627776 := by decide
                                                             omega)
        omega
    refine ⟨?_, by simp [PyData.depth], by simp [PyData.showable, lg], by simp [PyData.hasDict], by simp [PyData.canLay0], ?_, ?_⟩
    · simp only [PyData.weight]; split <;> omega
    · simp only [PyData.intsShort, PyData.shown_int]
      exact decide_eq_true (nS_len13 h0 h1)
    · rw [PyData.shown_int]
      exact (nS_wd (by omega) h1).sk
  | @str n x hc hl =>
    have hw := tmW_ge n
    have sk : Sk x := fun c h => by have := hc c h; omega
    refine ⟨?_, by simp [PyData.depth], by simp [PyData.showable], by simp [PyData.hasDict], by simp [PyData.canLay0, sk.ok], by simp [PyData.intsShort], by rw [PyData.shown_str]; exact repr_sk hc⟩
    simp only [PyData.weight]
    have : x.cps.size = x.length := rfl
    omega
  | @list n xs h hl ih =>
    have w := weightAll_le (tmW n) xs fun x hx => (ih x hx).1
    have d := depthAll_le (n + 1) xs fun x hx => (ih x hx).2.1
    refine ⟨?_, by simp only [PyData.depth]; omega, by simp only [PyData.showable]; exact showAll_of xs fun x hx => (ih x hx).2.2.1, by simp only [PyData.hasDict]; exact dictAll_of xs fun x hx => (ih x hx).2.2.2.1, by simp only [PyData.canLay0]; exact layAll_of xs fun x hx => (ih x hx).2.2.2.2.1, by simp only [PyData.intsShort]; exact shortAll_of xs fun x hx => (ih x hx).2.2.2.2.2.1, ?_⟩
    · simp only [PyData.weight]
      have := Nat.mul_le_mul_right (tmW n + 1) hl
      show _ ≤ 7 * (tmW n + 1)
      omega
    · rw [PyData.shown_list]
      exact shown_list_sk _ _ (by unfold Sk; decide +kernel) (by unfold Sk; decide +kernel) fun x hx => (ih x hx).2.2.2.2.2.2
  | @tup n xs h hl ih =>
    have w := weightAll_le (tmW n) xs fun x hx => (ih x hx).1
    have d := depthAll_le (n + 1) xs fun x hx => (ih x hx).2.1
    refine ⟨?_, by simp only [PyData.depth]; omega, by simp only [PyData.showable]; exact showAll_of xs fun x hx => (ih x hx).2.2.1, by simp only [PyData.hasDict]; exact dictAll_of xs fun x hx => (ih x hx).2.2.2.1, by simp only [PyData.canLay0]; exact layAll_of xs fun x hx => (ih x hx).2.2.2.2.1, by simp only [PyData.intsShort]; exact shortAll_of xs fun x hx => (ih x hx).2.2.2.2.2.1, ?_⟩
    · simp only [PyData.weight]
      have := Nat.mul_le_mul_right (tmW n + 1) hl
      show _ ≤ 7 * (tmW n + 1)
      omega
    · rw [PyData.shown_tuple]
      refine shown_list_sk _ _ (by unfold Sk; decide +kernel) ?_ fun x hx => (ih x hx).2.2.2.2.2.2
      split <;> (unfold Sk; decide +kernel)
theorem repr_ok {a : D} {p : PyData} (ha : toPy a = some p) (t : Tm 3 p) (hd : isDisplay p = true) : gRepr [a] = some (.str p.shown) ∧ Sk p.shown := by
  obtain ⟨f1, f2, f3, f4, f5, f6, f7⟩ := t.facts
  have lay : PyData.layable0 p = true := by
    have w : tmW 3 ≤ 2 ^ 20 := by decide
    simp [PyData.layable0, f5]
    omega
  have hl := shown_le13 lay f6
  refine ⟨?_, f7⟩
  simp only [gRepr, ha]
  rw [if_pos ⟨f3, f4, by omega, by omega, hd⟩]
namespace K57
theorem same_ok {a b : D} {p : PyData} (ha : toPy a = some p) (hb : toPy b = some p) (t : Tm 3 p) (hd : isDisplay p = true) (mu : List D) : c_law_same [.dat a, .dat b] [] mu = .ok (.bl true) mu := by
  refine cf2 (m' := []) ?_ mu
  obtain ⟨r1, k⟩ := repr_ok ha t hd
  obtain ⟨r2, _⟩ := repr_ok hb t hd
  have e : gEq (.str p.shown) (.str p.shown) = some (.bl true) := by rw [eqs k k]; simp
  have key : F_law_same [.dat a, .dat b] [] = .rt (.bl true) [] := sRet_ok (e2_ok (mu1 := []) (eA_ok (mu1 := []) (aCons_ok (mu1 := []) rfl rfl) r1) (eA_ok (mu1 := []) (aCons_ok (mu1 := []) rfl rfl) r2) e)
  simp [m_law_same, mirB, key, keepsAll]
end K57
end DL

set_option maxHeartbeats 4000000
namespace DL
open PySem PySem.Spec PyProof.Rows L2 ClX TL
namespace K57
theorem plain_ok : c_Scheme_plain [.dat (.cls sS), .dat (.str (Str.ofString "b")), .dat (.str (Str.ofString "a"))] [] [] = .ok (schD [⟨Str.ofString "all", 1, 0, 1000, 0, 0⟩] [Str.ofString "a", Str.ofString "b"] (.int 0)) [] := by
  kernel_rfl
end K57
end DL

set_option maxHeartbeats 4000000
namespace DL
open PySem PySem.Spec PyProof.Rows L2 ClX TL
def rowP (r : Row) : PyData := .tuple [.str r.n, .int r.w, .int r.lo, .int r.hi, .int r.a, .int r.b]
def guP : D → PyData
  | .int i => .int i
  | _ => .none
theorem py_row (r : Row) : toPy (rowD r) = some (rowP r) := by simp [rowD, rowP, toPy, toPyL]
theorem py_rows : ∀ rs : List Row, toPyL (rs.map rowD) = some (rs.map rowP)
  | [] => by simp [toPyL]
  | r :: rs => by simp [toPyL, py_row r, py_rows rs]
theorem py_gu {gu : D} (h : GuOk gu) : toPy gu = some (guP gu) := by
  rcases h with rfl | ⟨i, rfl, _, _⟩ <;> simp [toPy, guP]
theorem tm_row {r : Row} (hn : Nm r.n) (h : Rok r) {n : Nat} : Tm (n + 1) (rowP r) := by
  have hw0 := h.w0; have hw1 := h.w1; have hl := h.l0; have hlh := h.lh; have hh := h.h1; have ha := h.a0; have ha1 := h.a1; have hb := h.b0; have hb1 := h.b1
  refine .tup _ (fun x hx => ?_) (by simp)
  simp only [List.mem_cons, List.not_mem_nil, or_false] at hx
  rcases hx with rfl | rfl | rfl | rfl | rfl | rfl
  · exact .str _ (fun c hc => by have := hn.2.2 c hc; omega) (by rw [len_tl]; have := hn.2.1; omega)
  all_goals exact .int _ (by omega) (by omega)
theorem tm_name {x : Str} (hn : Nm x) {n : Nat} : Tm n (.str x) := .str _ (fun c hc => by have := hn.2.2 c hc; omega) (by rw [len_tl]; have := hn.2.1; omega)
theorem tm_gu {gu : D} (h : GuOk gu) {n : Nat} : Tm n (guP gu) := by
  rcases h with rfl | ⟨i, rfl, _, _⟩
  · exact .non
  · exact .int _ (by omega) (by omega)
theorem eq_self {a : D} {p : PyData} {n : Nat} (ha : toPy a = some p) (t : Tm n p) (hn : n ≤ 60) : gEq a a = some (.bl true) := by
  obtain ⟨f1, f2, f3, f4, f5, f6, f7⟩ := t.facts
  have sh : SeqAt.shaped p = true := by simp [SeqAt.shaped, f5]; omega
  simp [gEq, ha, sh, PySem.SeqAt.eqv_refl p f5]
theorem len_app (a b : Str) : (a ++ b).length = a.length + b.length := by rw [len_tl, tl_append, List.length_append, ← len_tl, ← len_tl]
section
variable {rs : List Row} {ws : List Str} {gu : D}
theorem Wr.tm_rows (h : Wr rs ws gu) {n : Nat} : Tm (n + 2) (.list (rs.map rowP)) := .list _ (fun x hx => by
  obtain ⟨r, hr, rfl⟩ := List.mem_map.mp hx
  exact tm_row (h.rnm r hr) (h.rok r hr)) (by have := h.r1; simp; omega)
theorem Wr.tm_words (h : Wr rs ws gu) {n : Nat} : Tm (n + 1) (.list (ws.map .str)) := .list _ (fun x hx => by
  obtain ⟨r, hr, rfl⟩ := List.mem_map.mp hx
  exact tm_name (h.wnm r hr)) (by have := h.w1; simp; omega)
theorem Wr.txt_chr (h : Wr rs ws gu) : ∀ c ∈ tl (txt rs ws gu), c < 128 := by
  intro c hc
  rw [txt, join_eq, tl_join, tl_nl] at hc
  have wl : ∀ xs : List Str, (∀ w ∈ xs, Wd w) → c ∈ tl (Txt.join sp xs) → c < 128 := fun xs hx hm => by
    rw [join_eq, tl_join, tl_sp] at hm
    rcases joinL_mem _ _ hm with z | ⟨p, hp, z⟩
    · simp at z; omega
    · obtain ⟨w, hw, rfl⟩ := List.mem_map.mp hp
      exact ((hx w hw).sgn c z).2
  rcases joinL_mem _ _ hc with z | ⟨p, hp, z⟩
  · simp at z; omega
  · obtain ⟨x, hx, rfl⟩ := List.mem_map.mp hp
    simp only [lines, List.mem_append, List.mem_cons, List.not_mem_nil, or_false, List.mem_map] at hx
    rcases hx with ⟨r, hr, rfl⟩ | rfl | rfl
    · exact wl _ (wordsR_wd (h.rnm r hr) (h.rok r hr)) z
    · exact wl _ h.wI z
    · exact wl _ h.wS z
theorem Wr.tm_txt (h : Wr rs ws gu) {n : Nat} : Tm n (.str (txt rs ws gu)) := .str _ h.txt_chr (by have := h.txt_len; omega)
theorem Wr.txt_sk (h : Wr rs ws gu) : Sk (txt rs ws gu) := fun c hc => by have := h.txt_chr c hc; omega
def T7 (n m : Nat) : Str := Str.ofString "Scheme(" ++ nS (n : Int) ++ Str.ofString " sites, " ++ nS (m : Int) ++ Str.ofString " items)"
theorem len_a : (Str.ofString "Scheme(").length = 7 := by decide +kernel
theorem len_b : (Str.ofString " sites, ").length = 8 := by decide +kernel
theorem len_c : (Str.ofString " items)").length = 7 := by decide +kernel
theorem T7_tm {n m : Nat} (hn : n ≤ 100) (hm : m ≤ 100) {k : Nat} : Tm k (.str (T7 n m)) := by
  have w1 := nS_wd (i := (n : Int)) (by omega) (by omega)
  have w2 := nS_wd (i := (m : Int)) (by omega) (by omega)
  have l1 := w1.len
  have l2 := w2.len
  refine .str _ (fun c hc => ?_) ?_
  · simp only [T7, tl_append, List.mem_append] at hc
    rcases hc with (((z | z) | z) | z) | z
    · exact (by decide +kernel : ∀ c ∈ tl (Str.ofString "Scheme("), c < 128) c z
    · exact (w1.sgn c z).2
    · exact (by decide +kernel : ∀ c ∈ tl (Str.ofString " sites, "), c < 128) c z
    · exact (w2.sgn c z).2
    · exact (by decide +kernel : ∀ c ∈ tl (Str.ofString " items)"), c < 128) c z
  · simp only [T7, len_app, len_a, len_b, len_c]; omega
namespace K57
theorem e_parts {rho : List Sl} {mu : List D} {i : Nat} (h : rho[i]? = some (.dat (schD rs ws gu))) : eAttr [sS] (Str.ofString "parts") (rVar i) rho mu = .ok (.lst (rs.map rowD)) mu := by
  simp [eAttr, rVar, h, Rs.bind, objIn, schD, look_parts, Rs.ofO]
theorem e_words {rho : List Sl} {mu : List D} {i : Nat} (h : rho[i]? = some (.dat (schD rs ws gu))) : eAttr [sS] (Str.ofString "words") (rVar i) rho mu = .ok (.lst (ws.map .str)) mu := by
  simp [eAttr, rVar, h, Rs.bind, objIn, schD, look_words, Rs.ofO]
theorem e_gu {rho : List Sl} {mu : List D} {i : Nat} (h : rho[i]? = some (.dat (schD rs ws gu))) : eAttr [sS] (Str.ofString "guests") (rVar i) rho mu = .ok gu mu := by
  simp [eAttr, rVar, h, Rs.bind, objIn, schD, look_guests, Rs.ofO]
theorem dlen_ok (mu : List D) : c_Scheme_dlen [.dat (schD rs ws gu)] [] mu = .ok (.int ws.length) mu := by
  refine cf1 (m' := []) ?_ mu
  have : F_Scheme_dlen [.dat (schD rs ws gu)] [] = .rt (.int ws.length) [] := sRet_ok (eA_ok (aCons_ok (e_words rfl) rfl) (by simp [gLen]))
  simp [m_Scheme_dlen, mirB, this, keepsAll]
theorem drepr_ok (hr : rs.length ≤ 100) (hw : ws.length ≤ 100) (mu : List D) : c_Scheme_drepr [.dat (schD rs ws gu)] [] mu = .ok (.str (T7 rs.length ws.length)) mu := by
  refine cf1 (m' := []) ?_ mu
  have w1 := nS_wd (i := (rs.length : Int)) (by omega) (by omega)
  have w2 := nS_wd (i := (ws.length : Int)) (by omega) (by omega)
  have l1 := w1.len
  have l2 := w2.len
  have f1 : gFmt (.int (rs.length : Int)) = some (.str (nS (rs.length : Int))) := by simp only [gFmt]; rw [if_pos (log_ok (by omega))]
  have f2 : gFmt (.int (ws.length : Int)) = some (.str (nS (ws.length : Int))) := by simp only [gFmt]; rw [if_pos (log_ok (by omega))]
  have g1 : e1 gFmt (eA gLen (aCons (eAttr [sS] (Str.ofString "parts") (rVar 0)) (aNil))) [.dat (schD rs ws gu)] [] = .ok (.str (nS (rs.length : Int))) [] := by
    have := eA_ok (g := gLen) (as := [.lst (rs.map rowD)]) (mu1 := []) (aCons_ok (mu1 := []) (e_parts (rs := rs) (ws := ws) (gu := gu) (rho := [.dat (schD rs ws gu)]) (mu := []) (i := 0) rfl) (show aNil _ [] = .ok [] [] from rfl)) (c := .int (rs.length : Int)) (by simp [gLen])
    simp only [e1, this, Rs.bind, f1, Rs.ofO]
  have g2 : e1 gFmt (eA gLen (aCons (eAttr [sS] (Str.ofString "words") (rVar 0)) (aNil))) [.dat (schD rs ws gu)] [] = .ok (.str (nS (ws.length : Int))) [] := by
    have := eA_ok (g := gLen) (as := [.lst (ws.map .str)]) (mu1 := []) (aCons_ok (mu1 := []) (e_words (rs := rs) (ws := ws) (gu := gu) (rho := [.dat (schD rs ws gu)]) (mu := []) (i := 0) rfl) (show aNil _ [] = .ok [] [] from rfl)) (c := .int (ws.length : Int)) (by simp [gLen])
    simp only [e1, this, Rs.bind, f2, Rs.ofO]
  have z : Str.empty ++ Str.ofString "Scheme(" = Str.ofString "Scheme(" := by decide +kernel
  have key : F_Scheme_drepr [.dat (schD rs ws gu)] [] = .rt (.str (T7 rs.length ws.length)) [] := by
    refine sRet_ok ?_
    simp only [jsD, eC, Rs.bind, g1, g2, z, len_app, len_a, len_b, len_c]
    rw [if_pos (by omega), if_pos (by omega), if_pos (by omega), if_pos (by omega), if_pos (by omega)]
    rfl
  simp [m_Scheme_drepr, mirB, key, keepsAll]
theorem e_len {rho : List Sl} {mu : List D} (hw : ws.length ≤ 100) (h : rho[0]? = some (.dat (schD rs ws gu))) : eSpec sS c_Scheme_dlen (rVar 0) gLenB rho mu = .ok (.int ws.length) mu := by
  have c := dlen_ok (rs := rs) (ws := ws) (gu := gu) mu
  simp only [eSpec, rVar, h, Rs.bind]
  simp only [schD, objIn, if_pos] at c ⊢
  rw [c]
  have e63 : (2 : Int) ^ 63 = 9223372036854775808 := by decide
  have : (0 : Int) ≤ ws.length ∧ (ws.length : Int) < 2 ^ 63 := by rw [e63]; omega
  simp only [gLenB]
  rw [if_pos this]; rfl
theorem e_repr {rho : List Sl} {mu : List D} (hr : rs.length ≤ 100) (hw : ws.length ≤ 100) (h : rho[0]? = some (.dat (schD rs ws gu))) : eSpec sS c_Scheme_drepr (rVar 0) gStrB rho mu = .ok (.str (T7 rs.length ws.length)) mu := by
  have c := drepr_ok (rs := rs) (ws := ws) (gu := gu) hr hw mu
  simp only [eSpec, rVar, h, Rs.bind]
  simp only [schD, objIn, if_pos] at c ⊢
  rw [c]; rfl
theorem named_loop (S : D) {r : Row} : ∀ (l : List Row) (u : Sl), r ∈ l → (l.map Row.n).Nodup → (∀ q ∈ l, Nm q.n) → loopL (gN 2) (sIf (e2 gEq (e2 gIx (eVar 2) (eC (.int 0))) (eVar 1)) (sRet (eVar 2)) (sNx)) (l.map rowD) [.dat S, .dat (.str r.n), u] [] = .rt (rowD r) []
  | [], _, h, _, _ => by simp at h
  | q :: l, u, h, nd, hn => by
    have gx : gIx (rowD q) (.int 0) = some (.str q.n) := rfl
    have hrn : Nm r.n := hn r h
    have c : e2 gEq (e2 gIx (eVar 2) (eC (.int 0))) (eVar 1) [.dat S, .dat (.str r.n), .dat (rowD q)] [] = .ok (.bl (decide (q.n = r.n))) [] :=
      e2_ok (mu1 := []) (e2_ok (mu1 := []) rfl rfl gx) rfl (eqs (hn q List.mem_cons_self).sk hrn.sk)
    rw [List.map_cons] at nd
    have nd2 := List.nodup_cons.mp nd
    by_cases e : q.n = r.n
    · have : r = q := by
        rcases List.mem_cons.mp h with z | z
        · exact z
        · exact absurd (by rw [e]; exact List.mem_map_of_mem z) nd2.1
      subst this
      rw [decide_eq_true rfl] at c
      simp [loopL, gN, sIf, c, rBind, sRet, eVar]
    · rw [decide_eq_false e] at c
      have hr : r ∈ l := by
        rcases List.mem_cons.mp h with z | z
        · exact absurd (by rw [z]) e
        · exact z
      have ih := named_loop S l (.dat (rowD q)) hr nd2.2 fun x hx => hn x (List.mem_cons_of_mem _ hx)
      simp [loopL, gN, sIf, c, rBind, sNx]
      exact ih
theorem named_ok {r : Row} (h : r ∈ rs) (nd : (rs.map Row.n).Nodup) (hn : ∀ q ∈ rs, Nm q.n) (mu : List D) : c_Scheme_site_named [.dat (schD rs ws gu), .dat (.str r.n)] [] mu = .ok (rowD r) mu := by
  refine cf2 (m' := []) ?_ mu
  have a := e_parts (rs := rs) (ws := ws) (gu := gu) (rho := [.dat (schD rs ws gu), .dat (.str r.n), .no]) (mu := []) (i := 0) rfl
  have key : F_Scheme_site_named [.dat (schD rs ws gu), .dat (.str r.n), .no] [] = .rt (rowD r) [] := by
    have : sFor (aIt (eAttr [sS] (Str.ofString "parts") (rVar 0))) (gN 2) (sIf (e2 gEq (e2 gIx (eVar 2) (eC (.int 0))) (eVar 1)) (sRet (eVar 2)) (sNx)) [.dat (schD rs ws gu), .dat (.str r.n), .no] [] = .rt (rowD r) [] := by
      simp only [sFor, aIt, a, Rs.bind, iterD, itemsD, Rs.ofO, rBind]
      exact named_loop _ rs .no h nd hn
    unfold F_Scheme_site_named sSeq
    rw [this]
  simp [m_Scheme_site_named, mirB, key, keepsAll]
theorem mirB_rt {N : Nat} {fs : FS} {rho : List Sl} {mu m : List D} {d : D} (h : fs (rho ++ List.replicate (N - rho.length) .no) mu = .rt d m) (hk : keepsAll (m.take mu.length) = true) : mirB N fs rho mu = .ok d (m.take mu.length) := by
  unfold mirB; rw [h]; simp only [hk, if_true]
theorem gl (xs : List D) (h : xs.length ≤ 100) : gLst xs = some (.lst xs) := by
  unfold gLst; rw [if_pos (by omega)]
theorem so_ok (h : Rd rs ws gu) (mu : List D) : c_law_scheme_so [.dat (schD rs ws gu), .dat (planD rs ws gu)] [] mu = .ok (.bl true) mu := by
  refine cf2 (m' := []) ?_ mu
  have r1 := h.r1
  have w1 := h.w1
  have q1 := fun rho hr => e_sites (rs := rs) (ws := ws) (gu := gu) (rho := rho) (mu := []) hr
  have q2 := fun rho hr => e_names (rs := rs) (ws := ws) (gu := gu) (rho := rho) (mu := []) hr
  have q3 := fun rho hr => e_guests (rs := rs) (ws := ws) (gu := gu) (rho := rho) (mu := []) hr
  have q4 := fun rho hr => e_len (rs := rs) (ws := ws) (gu := gu) (rho := rho) (mu := []) (by omega) hr
  have q5 := fun rho hr => e_repr (rs := rs) (ws := ws) (gu := gu) (rho := rho) (mu := []) (by omega) (by omega) hr
  have p0 : gIx (planD rs ws gu) (.int 0) = some (.lst (rs.map rowD)) := rfl
  have p1 : gIx (planD rs ws gu) (.int 1) = some (.lst (ws.map .str)) := rfl
  have p2 : gIx (planD rs ws gu) (.int 2) = some gu := rfl
  have nm := fun r hr => named_ok (rs := rs) (ws := ws) (gu := gu) (r := r) hr h.rnd h.rnm []
  have lk := look_no rs ws gu (m := Str.ofString "site_named") (by decide +kernel) (by decide +kernel) (by decide +kernel)
  have so : objIn [] (.dat (schD rs ws gu)) = some (sS, schF rs ws gu) := rfl
  generalize hP : planD rs ws gu = P at *
  generalize hS : schD rs ws gu = S at *
  obtain ⟨F5, hF5⟩ : ∃ F5 : D, F5 = .lst [.lst (rs.map rowD), .lst (ws.map .str), gu, .int ws.length, .str (T7 rs.length ws.length)] := ⟨_, rfl⟩
  have pyF : toPy F5 = some (.list [.list (rs.map rowP), .list (ws.map .str), guP gu, .int ws.length, .str (T7 rs.length ws.length)]) := by
    rw [hF5]; simp [toPy, toPyL, py_rows, pys, py_gu h.g]
  have tmF : Tm 3 (.list [.list (rs.map rowP), .list (ws.map .str), guP gu, .int ws.length, .str (T7 rs.length ws.length)]) := by
    refine .list _ (fun x hx => ?_) (by simp)
    simp only [List.mem_cons, List.not_mem_nil, or_false] at hx
    rcases hx with rfl | rfl | rfl | rfl | rfl
    · exact h.toWr.tm_rows
    · exact h.toWr.tm_words
    · exact tm_gu h.g
    · exact .int _ (by omega) (by omega)
    · exact T7_tm (by omega) (by omega)
  have same := same_ok pyF pyF tmF rfl []
  have key : F_law_scheme_so [.dat S, .dat P, .no, .no, .no] [] = .rt (.bl true) [] := by
    refine seq_go (sSet_ok (d := F5) (mu1 := []) ?_) ?_
    · exact eA_ok (aCons_ok (q1 _ rfl) (aCons_ok (q2 _ rfl) (aCons_ok (q3 _ rfl) (aCons_ok (q4 _ rfl) (aCons_ok (q5 _ rfl) rfl))))) (by rw [hF5]; exact gl _ (by simp))
    have n1 : ∀ rho : List Sl, rho[1]? = some (.dat P) → eA gLen (aCons (e2 gIx (eVar 1) (eC (.int 0))) (aNil)) rho [] = .ok (.int rs.length) [] := fun rho hr => eA_ok (mu1 := []) (aCons_ok (mu1 := []) (e2_ok (a := P) (mu1 := []) (by simp only [eVar, hr]) rfl p0) rfl) (by simp [gLen])
    have n2 : ∀ rho : List Sl, rho[1]? = some (.dat P) → eA gLen (aCons (e2 gIx (eVar 1) (eC (.int 1))) (aNil)) rho [] = .ok (.int ws.length) [] := fun rho hr => eA_ok (mu1 := []) (aCons_ok (mu1 := []) (e2_ok (a := P) (mu1 := []) (by simp only [eVar, hr]) rfl p1) rfl) (by simp [gLen])
    have g1 : gStrOf [.int (rs.length : Int)] = some (.str (nS (rs.length : Int))) := by simp only [gStrOf]; rw [if_pos (log_ok (by omega))]
    have g2 : gStrOf [.int (ws.length : Int)] = some (.str (nS (ws.length : Int))) := by simp only [gStrOf]; rw [if_pos (log_ok (by omega))]
    have l1 := (nS_wd (i := (rs.length : Int)) (by omega) (by omega)).len
    have l2 := (nS_wd (i := (ws.length : Int)) (by omega) (by omega)).len
    refine seq_go (sSet_ok (d := .str (T7 rs.length ws.length)) (mu1 := []) ?_) ?_
    · refine e2_ok (mu1 := []) (e2_ok (mu1 := []) (e2_ok (mu1 := []) (e2_ok (mu1 := []) rfl (eA_ok (aCons_ok (n1 _ rfl) rfl) g1) (c := .str (Str.ofString "Scheme(" ++ nS (rs.length : Int))) ?_) rfl (c := .str (Str.ofString "Scheme(" ++ nS (rs.length : Int) ++ Str.ofString " sites, ")) ?_) (eA_ok (aCons_ok (n2 _ rfl) rfl) g2) (c := .str (Str.ofString "Scheme(" ++ nS (rs.length : Int) ++ Str.ofString " sites, " ++ nS (ws.length : Int))) ?_) rfl ?_
      · simp only [gAdd, len_app, len_a, len_b, len_c]; rw [if_pos (by omega)]
      · simp only [gAdd, len_app, len_a, len_b, len_c]; rw [if_pos (by omega)]
      · simp only [gAdd, len_app, len_a, len_b, len_c]; rw [if_pos (by omega)]
      · simp only [gAdd, len_app, len_a, len_b, len_c, T7]; rw [if_pos (by omega)]
    show sSeq _ _ [.dat S, .dat P, .dat F5, .dat (.str (T7 rs.length ws.length)), .no] [] = _
    have v1 : eA gLst (aCons (e2 gIx (eVar 1) (eC (.int 0))) (aCons (e2 gIx (eVar 1) (eC (.int 1))) (aCons (e2 gIx (eVar 1) (eC (.int 2))) (aCons (eA gLen (aCons (e2 gIx (eVar 1) (eC (.int 1))) (aNil))) (aCons (eVar 3) (aNil)))))) [.dat S, .dat P, .dat F5, .dat (.str (T7 rs.length ws.length)), .no] [] = .ok F5 [] :=
      eA_ok (mu1 := []) (aCons_ok (mu1 := []) (e2_ok (mu1 := []) rfl rfl p0) (aCons_ok (mu1 := []) (e2_ok (mu1 := []) rfl rfl p1) (aCons_ok (mu1 := []) (e2_ok (mu1 := []) rfl rfl p2) (aCons_ok (n2 _ rfl) (aCons_ok (mu1 := []) rfl rfl))))) (by rw [hF5]; exact gl _ (by simp))
    have c1 : eCall c_law_same (lCons (rVar 2) (lCons (rDat (eA gLst (aCons (e2 gIx (eVar 1) (eC (.int 0))) (aCons (e2 gIx (eVar 1) (eC (.int 1))) (aCons (e2 gIx (eVar 1) (eC (.int 2))) (aCons (eA gLen (aCons (e2 gIx (eVar 1) (eC (.int 1))) (aNil))) (aCons (eVar 3) (aNil)))))))) (lNil))) (lNil) [.dat S, .dat P, .dat F5, .dat (.str (T7 rs.length ws.length)), .no] [] = .ok (.bl true) [] := by
      simp only [eCall, lCons, rVar, rDat, lNil, Rs.bind, v1, List.getElem?_cons_succ, List.getElem?_cons_zero]
      exact same
    refine seq_go (sIf_no (eNot_ok c1)) (sRet_ok ?_)
    refine all_true (ds := rs.map rowD) (by simp only [aIt, e2_ok (f1 := eVar 1) (f2 := eC (.int 0)) (rho := [.dat S, .dat P, .dat F5, .dat (.str (T7 rs.length ws.length)), .no]) (mu := []) (mu1 := []) (a := P) rfl rfl p0, Rs.bind, iterD, itemsD, Rs.ofO]) (fun d hd => ?_) (by simp; omega)
    obtain ⟨r, hr, rfl⟩ := List.mem_map.mp hd
    show eCall c_law_same _ _ [.dat S, .dat P, .dat F5, .dat (.str (T7 rs.length ws.length)), .dat (rowD r)] [] = _
    have gx : gIx (rowD r) (.int 0) = some (.str r.n) := rfl
    have m1 : eMeth sS (Str.ofString "site_named") (rVar 0) c_Scheme_site_named (lCons (rDat (e2 gIx (eVar 4) (eC (.int 0)))) (lNil)) lNil [.dat S, .dat P, .dat F5, .dat (.str (T7 rs.length ws.length)), .dat (rowD r)] [] = .ok (rowD r) [] := by
      simp only [eMeth, rVar, List.getElem?_cons_zero, Rs.bind, so]
      rw [if_pos ⟨trivial, lk⟩]
      have : e2 gIx (eVar 4) (eC (.int 0)) [.dat S, .dat P, .dat F5, .dat (.str (T7 rs.length ws.length)), .dat (rowD r)] [] = .ok (.str r.n) [] := e2_ok (mu1 := []) rfl rfl gx
      simp only [lCons, rDat, lNil, Rs.bind, this]
      exact nm r hr
    simp only [eCall, lCons, rVar, rDat, lNil, Rs.bind, m1, List.getElem?_cons_succ, List.getElem?_cons_zero]
    exact same_ok (py_row r) (py_row r) (tm_row (h.rnm r hr) (h.rok r hr)) rfl []
  exact mirB_rt (N := 5) (fs := F_law_scheme_so) (rho := [.dat S, .dat P]) (mu := []) (m := []) key rfl
theorem deq_ok (h : Wr rs ws gu) (mu : List D) : c_Scheme_deq [.dat (schD rs ws gu), .dat (schD rs ws gu)] [] mu = .ok (.bl true) mu := by
  refine cf2 (m' := []) ?_ mu
  have t1 : gEq (.lst (rs.map rowD)) (.lst (rs.map rowD)) = some (.bl true) := eq_self (n := 2) (by simp [toPy, py_rows]) h.tm_rows (by omega)
  have t2 : gEq (.lst (ws.map .str)) (.lst (ws.map .str)) = some (.bl true) := eq_self (n := 1) (by simp [toPy, pys]) h.tm_words (by omega)
  have t3 : gEq gu gu = some (.bl true) := eq_self (n := 0) (py_gu h.g) (tm_gu h.g) (by omega)
  have t0 : gIsi tb_isi [schD rs ws gu, .cls sS] = some (.bl true) := by simp [gIsi, tb_isi, schD]
  have key : F_Scheme_deq [.dat (schD rs ws gu), .dat (schD rs ws gu)] [] = .rt (.bl true) [] := by
    refine sRet_ok (eAnd_go (mu1 := []) (eA_ok (mu1 := []) (aCons_ok (mu1 := []) rfl (aCons_ok (mu1 := []) rfl rfl)) t0) (eAnd_go (mu1 := []) (e2_ok (e_parts rfl) (e_parts rfl) t1) (eAnd_go (mu1 := []) (e2_ok (e_words rfl) (e_words rfl) t2) (e2_ok (e_gu rfl) (e_gu rfl) t3))))
  simp [m_Scheme_deq, mirB, key, keepsAll]
theorem ne_ok (h : Wr rs ws gu) {f1 f2 : FE} {rho : List Sl} {mu mu1 mu2 : List D} (e1 : f1 rho mu = .ok (schD rs ws gu) mu1) (e2' : f2 rho mu1 = .ok (schD rs ws gu) mu2) : eEqO true sS c_Scheme_deq f1 f2 rho mu = .ok (.bl false) mu2 := by
  have d := deq_ok h mu2
  simp only [eEqO, e1, e2', Rs.bind]
  simp only [schD] at d ⊢
  simp only [eqoR]
  rw [if_pos (by simp), d]
  rfl
end K57
end
end DL

set_option maxHeartbeats 4000000
namespace DL
open PySem PySem.Spec PyProof.Rows L2 ClX TL
theorem callG {c : List Sl → List Sl → List D → Rs D} {fa fk : FL} {rho : List Sl} {mu mu1 mu2 : List D} {ss ts : List Sl} {r : Rs D} (h1 : fa rho mu = .ok ss mu1) (h2 : fk rho mu1 = .ok ts mu2) (h3 : c ss ts mu2 = r) : eCall c fa fk rho mu = r := by
  simp only [eCall, h1, h2, Rs.bind, h3]
theorem lCons_ok {f : FR} {fl : FL} {rho : List Sl} {mu mu1 mu2 : List D} {s : Sl} {ss : List Sl} (h1 : f rho mu = .ok s mu1) (h2 : fl rho mu1 = .ok ss mu2) : lCons f fl rho mu = .ok (s :: ss) mu2 := by
  simp only [lCons, h1, h2, Rs.bind]
theorem rDat_ok {f : FE} {rho : List Sl} {mu mu1 : List D} {d : D} (h : f rho mu = .ok d mu1) : rDat f rho mu = .ok (.dat d) mu1 := by
  simp only [rDat, h, Rs.bind]
theorem par2_ok {i j : Nat} {f1 f2 : FE} {rho : List Sl} {mu mu1 mu2 : List D} {d1 d2 : D} (h1 : f1 rho mu = .ok d1 mu1) (h2 : f2 rho mu1 = .ok d2 mu2) : sParX i j (xDat f1 (xDat f2 xNil)) rho mu = .nx ((rho.set i (.dat d1)).set j (.dat d2)) mu2 := by
  simp only [sParX, xDat, xNil, h1, h2, Rs.bind, rBind]
namespace K57
theorem source_ok (ns : List Int) (hl : ns.length ≤ 63) : ∃ s, m_law_source [.dat (.fro (ns.map .int))] [] = .ok (mkR ns 0 0 s 0) [] := by
  have c63 : cutD (ns.map D.int) none (some 63) = ns.map .int := by
    unfold cutD
    rw [HT.sIx_none]
    have : HT.sIx (ns.map D.int).length (ns.map D.int).length (some 63) = (ns.map D.int).length := by
      have := HT.sIx_nat (ns.map D.int).length (ns.map D.int).length 63
      rw [show (some 63 : Option Int) = some ((63 : Nat) : Int) from rfl, this, Nat.min_eq_right (by simp; exact hl)]
    rw [this, List.drop_zero, Nat.sub_zero, List.take_length]
  have sl : ∀ rho : List Sl, rho[0]? = some (.dat (.fro (ns.map .int))) → eSlice (eVar 0) (oNone) (oSome (eC (.int 63))) rho [] = .ok (.lst (ns.map .int)) [] := fun rho h => by
    simp only [eSlice, eVar, h, oNone, oSome, eC, Rs.bind, gSlice, Rs.ofO, c63]
  obtain ⟨rho', mu', e, post, s, u, h1, rfl, rfl⟩ := loop_inv (g := gN 2) (body := (sSet 1 (e2 gMod (eA gIntOf (aCons (e2 gAdd (e2 gAdd (e2 gMul (eVar 1) (eC (.int 46351))) (e2 gMod (eA gIntOf (aCons (eVar 2) (aNil))) (eC (.int 2147483399)))) (eC (.int 29))) (aNil))) (eC (.int 2147483549)))))
    (fun ds rho mu => ∃ (post : List Int) (s : Int) (u : Sl), ds = post.map .int ∧ rho = [.dat (.fro (ns.map .int)), .dat (.int s), u] ∧ mu = [])
    (by
      rintro d ds rho mu ⟨post, s, u, h1, rfl, rfl⟩
      cases post with
      | nil => simp at h1
      | cons i post =>
        rw [List.map_cons] at h1
        injection h1 with h1 h2
        subst h1; subst h2
        refine ⟨_, rfl, _, _, ?_, post, (s * 46351 + i.fmod 2147483399 + 29).fmod 2147483549, .dat (.int i), rfl, rfl, rfl⟩
        simp [sSet, e2, eA, aCons, aNil, eVar, eC, Rs.bind, gMul, gIntOf, gMod, gAdd, Rs.ofO, rBind])
    (ns.map .int) [.dat (.fro (ns.map .int)), .dat (.int 4917), .no] [] ⟨ns, 4917, .no, rfl, rfl, rfl⟩
  refine ⟨s, ?_⟩
  have f : F_law_source [.dat (.fro (ns.map .int)), .no, .no] [] = .ok (mkR ns 0 0 s 0) [] := by
    have a : sSet 1 (eC (.int 4917)) [.dat (.fro (ns.map .int)), .no, .no] [] = .nx [.dat (.fro (ns.map .int)), .dat (.int 4917), .no] [] := rfl
    have b : sFor (aIt (eSlice (eVar 0) (oNone) (oSome (eC (.int 63))))) (gN 2) (sSet 1 (e2 gMod (eA gIntOf (aCons (e2 gAdd (e2 gAdd (e2 gMul (eVar 1) (eC (.int 46351))) (e2 gMod (eA gIntOf (aCons (eVar 2) (aNil))) (eC (.int 2147483399)))) (eC (.int 29))) (aNil))) (eC (.int 2147483549)))) [.dat (.fro (ns.map .int)), .dat (.int 4917), .no] [] = .nx [.dat (.fro (ns.map .int)), .dat (.int s), u] [] := by
      simp only [sFor, aIt, sl _ (List.getElem?_cons_zero), Rs.bind, iterD, itemsD, Rs.ofO, rBind]
      exact e
    unfold F_law_source zSeq
    rw [a]
    simp only
    rw [b]
    simp only
    exact eA_ok (mu1 := []) (aCons_ok (mu1 := []) (eA_ok (mu1 := []) (aCons_ok (mu1 := []) (sl _ rfl) rfl) rfl) (aCons_ok (mu1 := []) rfl (aCons_ok (mu1 := []) rfl (aCons_ok (mu1 := []) rfl (aCons_ok (mu1 := []) rfl rfl))))) (gl _ (by simp))
  show mirZ 3 F_law_source _ _ = _
  unfold mirZ
  rw [show ([.dat (.fro (ns.map .int))] ++ List.replicate (3 - [Sl.dat (.fro (ns.map .int))].length) Sl.no) = [.dat (.fro (ns.map .int)), .no, .no] from rfl, f]
  rfl
theorem mixed_ok {g : D} (hg : Rng g) (ws : List Str) (hl : ws.length ≤ 100) : ∃ ws' g', Rng g' ∧ List.Perm ws' ws ∧ ∀ mu, c_law_mixed [.own 0, .dat (.lst (ws.map .str))] [] (g :: mu) = .ok (.lst (ws'.map .str)) (g' :: mu) := by
  obtain ⟨rho', mu', e, g', pre, post, acc, u, h1, h2, rfl, rfl, h5, hp⟩ := loop_inv (g := gN 3) (body := (sMut 2 gInsert (aCons (eCall c_law_draw (lCons (rVar 0) (lCons (rDat (e2 gAdd (eOwnLen 2) (eC (.int 1)))) (lNil))) (lNil)) (aCons (eVar 3) (aNil)))))
    (fun ds rho mu => ∃ (g : D) (pre post acc : List Str) (u : Sl), ws = pre ++ post ∧ ds = post.map .str ∧ rho = [.own 0, .dat (.lst (ws.map .str)), .own 1, u] ∧ mu = [g, .lst (acc.map .str)] ∧ Rng g ∧ acc.Perm pre)
    (by
      rintro d ds rho mu ⟨g, pre, post, acc, u, h1, h2, rfl, rfl, hg, hp⟩
      cases post with
      | nil => simp at h2
      | cons x post =>
        rw [List.map_cons] at h2
        injection h2 with h2 h3
        subst h2; subst h3
        have hal : acc.length ≤ 100 := by
          have := hp.length_eq
          have h1' := congrArg List.length h1
          simp at h1'
          omega
        obtain ⟨i, g', hg', i0, i1, ed⟩ := draw_c hg (n := (acc.length : Int) + 1) (by omega) (by omega)
        obtain ⟨i, rfl⟩ := Int.eq_ofNat_of_zero_le i0
        refine ⟨_, rfl, _, _, ?_, g', pre ++ [x], post, acc.take i ++ [x] ++ acc.drop i, .dat (.str x), by rw [h1]; simp, rfl, rfl, rfl, hg', ?_⟩
        · have c : ∀ L : D, eCall c_law_draw (lCons (rVar 0) (lCons (rDat (e2 gAdd (eOwnLen 2) (eC (.int 1)))) (lNil))) (lNil) [.own 0, .dat L, .own 1, .dat (.str x)] [g, .lst (acc.map .str)] = .ok (.int i) [g', .lst (acc.map .str)] := fun L => by
            have : eOwnLen 2 [.own 0, .dat L, .own 1, .dat (.str x)] [g, .lst (acc.map .str)] = .ok (.int (acc.length : Int)) [g, .lst (acc.map .str)] := by
              simp only [eOwnLen, listAt, List.getElem?_cons_succ, List.getElem?_cons_zero, List.length_map]
            simp only [eCall, lCons, rVar, rDat, lNil, Rs.bind, e2, this, eC, gAdd, Rs.ofO, List.getElem?_cons_succ, List.getElem?_cons_zero]
            exact ed _
          have c' : aCons (eCall c_law_draw (lCons (rVar 0) (lCons (rDat (e2 gAdd (eOwnLen 2) (eC (.int 1)))) (lNil))) (lNil)) (aCons (eVar 3) (aNil)) [.own 0, .dat (.lst (ws.map .str)), .own 1, .dat (.str x)] [g, .lst (acc.map .str)] = .ok [.int i, .str x] [g', .lst (acc.map .str)] := aCons_ok (c _) (aCons_ok rfl rfl)
          have hi : gInsert (acc.map .str) [.int (i : Int), .str x] = some ((acc.take i ++ [x] ++ acc.drop i).map .str) := by
            have e63 : (2 : Int) ^ 63 = 9223372036854775808 := by decide
            have : (acc.map D.str).length < 16777216 ∧ (0 : Int) ≤ i ∧ (i : Int) < 2 ^ 63 := ⟨by rw [List.length_map]; omega, by omega, by rw [e63]; omega⟩
            simp only [gInsert]
            rw [if_pos this, Int.toNat_natCast]
            simp [List.map_take, List.map_drop]
          show sMut 2 gInsert _ [.own 0, .dat (.lst (ws.map .str)), .own 1, .dat (.str x)] [g, .lst (acc.map .str)] = _
          simp only [sMut, listAt, List.getElem?_cons_succ, List.getElem?_cons_zero, c', rBind, hi]
          rfl
        · have : (acc.take i ++ [x] ++ acc.drop i).Perm (x :: acc) := by
            have := List.perm_middle (a := x) (l₁ := acc.take i) (l₂ := acc.drop i)
            rw [List.take_append_drop] at this
            simpa using this
          exact this.trans ((hp.cons x).trans (by simpa using (List.perm_append_comm (l₁ := [x]) (l₂ := pre)))))
    (ws.map .str) [.own 0, .dat (.lst (ws.map .str)), .own 1, .no] [g, .lst []] ⟨g, [], ws, [], .no, rfl, rfl, rfl, rfl, hg, .refl _⟩
  have hpost : post = [] := by cases post with
    | nil => rfl
    | cons _ _ => simp at h2
  subst hpost
  rw [List.append_nil] at h1
  subst h1
  refine ⟨acc, g', h5, hp, fun mu => cfn_own ?_ mu⟩
  have key : F_law_mixed [.own 0, .dat (.lst (ws.map .str)), .no, .no] [g] = .rt (.lst (acc.map .str)) [g', .non] := by
    refine seq_go (r := [.own 0, .dat (.lst (ws.map .str)), .own 1, .no]) (m := [g, .lst []]) rfl ?_
    refine seq_go (r := [.own 0, .dat (.lst (ws.map .str)), .own 1, u]) (m := [g', .lst (acc.map .str)]) ?_ ?_
    · simp only [sFor, aIt, eVar, Rs.bind, iterD, itemsD, Rs.ofO, rBind, List.getElem?_cons_succ, List.getElem?_cons_zero]
      exact e
    · cases u <;> rfl
  exact mirB_rt (N := 4) (fs := F_law_mixed) (rho := [.own 0, .dat (.lst (ws.map .str))]) (mu := [g]) (m := [g', .non]) key (keep1 h5)
section
theorem Plan.wr {rs : List Row} {ws : List Str} {gu : D} (h : Plan rs ws gu) : Wr rs ws gu := ⟨h.r1, h.rok, h.rnm, h.w1, h.wnm, h.g⟩
theorem Plan.rd {rs : List Row} {ws : List Str} {gu : D} (h : Plan rs ws gu) : Rd rs ws gu := ⟨⟨h.r1, h.rok, h.rnm, h.w1, h.wnm, h.g⟩, h.r0, h.rnd, by have := h.w0; omega, h.wnd⟩
theorem scheme_ok {rs : List Row} {ws : List Str} {gu : D} (h : Plan rs ws gu) (mu : List D) : c_law_scheme [.dat (planD rs ws gu)] [] mu = .ok (schD rs ws gu) mu := by
  refine cf1 (m' := []) ?_ mu
  have m := (Plan.rd h).mk_c []
  rw [h.srt] at m
  have p0 : gIx (planD rs ws gu) (.int 0) = some (.lst (rs.map rowD)) := rfl
  have p1 : gIx (planD rs ws gu) (.int 1) = some (.lst (ws.map .str)) := rfl
  have p2 : gIx (planD rs ws gu) (.int 2) = some gu := rfl
  have key : F_law_scheme [.dat (planD rs ws gu)] [] = .rt (schD rs ws gu) [] := by
    refine sRet_ok ?_
    generalize planD rs ws gu = P at *
    have a0 : e2 gIx (eVar 0) (eC (.int 0)) [.dat P] [] = .ok (.lst (rs.map rowD)) [] := e2_ok (mu1 := []) rfl rfl p0
    have a1 : e2 gIx (eVar 0) (eC (.int 1)) [.dat P] [] = .ok (.lst (ws.map .str)) [] := e2_ok (mu1 := []) rfl rfl p1
    have a2 : e2 gIx (eVar 0) (eC (.int 2)) [.dat P] [] = .ok gu [] := e2_ok (mu1 := []) rfl rfl p2
    simp only [eCall, lCons, rDat, lNil, Rs.bind, a0, a1, a2]
    exact m
  exact mirB_rt (N := 1) (fs := F_law_scheme) (rho := [.dat (planD rs ws gu)]) (mu := []) (m := []) key rfl
/-- one turn of the law -/
theorem turn_ok (S : D) {g : D} (hg : Rng g) (t : Sl) (a b c d : Sl) : ∃ g' a' b' c' d', Rng g' ∧ (sSeq (sSet 3 (eCall c_law_spec (lCons (rVar 1) (lCons (rDat (eC (.int 2))) (lCons (rDat (eC (.int 5))) (lCons (rDat (eA gLst (aCons (eC (.int 0)) (aCons (eC (.int 1)) (aCons (e2 gPow (eC (.int 10)) (eC (.int 9))) (aCons (eC .non) (aNil))))))) (lNil))))) (lNil))) (sSeq (sParX 4 5 (xDat (eCall c_law_scheme (lCons (rVar 3) (lNil)) (lNil)) (xDat (eM1 gJoin (eC (.str (Str.ofString "\n"))) (eCall c_law_scheme_lines (lCons (rVar 3) (lNil)) (lNil))) (xNil)))) (sSeq (sIf (eNot (eCall c_law_same (lCons (rDat (eA gLst (aCons (eCall c_scheme_text (lCons (rVar 4) (lNil)) (lNil)) (aCons (eCall c_scheme_text_0_scheme (lNil) (lCons (rVar 4) (lNil))) (aNil))))) (lCons (rDat (eA gLst (aCons (eVar 5) (aCons (eVar 5) (aNil))))) (lNil))) (lNil))) (sRet (eC (.bl false))) (sNx)) (sSeq (sIf (eOr (eNot (eCall c_law_scheme_so (lCons (rDat (eCall c_read_scheme (lCons (rVar 5) (lNil)) (lNil))) (lCons (rVar 3) (lNil))) (lNil))) (eEqO true (Str.ofString "Scheme") c_Scheme_deq (eCall c_read_scheme_0_text (lNil) (lCons (rVar 5) (lNil))) (eVar 4))) (sRet (eC (.bl false))) (sNx)) (sSeq (sSet 6 (eM1 gJoin (eC (.str (Str.ofString "\n"))) (eCall c_law_scheme_lines (lCons (rDat (eA gTup (aCons (e2 gIx (eVar 3) (eC (.int 0))) (aCons (eCall c_law_mixed (lCons (rVar 1) (lCons (rDat (e2 gIx (eVar 3) (eC (.int 1)))) (lNil))) (lNil)) (aCons (e2 gIx (eVar 3) (eC (.int 2))) (aNil)))))) (lNil)) (lNil)))) (sIf (eOr (eEqO true (Str.ofString "Scheme") c_Scheme_deq (eCall c_read_scheme (lCons (rVar 6) (lNil)) (lNil)) (eVar 4)) (e2 gNe (eCall c_scheme_text (lCons (rDat (eCall c_read_scheme (lCons (rVar 6) (lNil)) (lNil))) (lNil)) (lNil)) (eVar 5))) (sRet (eC (.bl false))) (sNx))))))) [.dat S, .own 0, t, a, b, c, d] [g] = .nx [.dat S, .own 0, t, a', b', c', d'] [g'] := by
  obtain ⟨rs, ws, gu, g1, hg1, pl, e1⟩ := spec_go hg
  obtain ⟨ws', g2, hg2, hpm, e2m⟩ := mixed_ok hg1 ws (by have := pl.w1; omega)
  have wr := Plan.wr pl
  have rd := Plan.rd pl
  have rd' : Rd rs ws' gu := ⟨⟨pl.r1, pl.rok, pl.rnm, by rw [hpm.length_eq]; exact pl.w1, fun w hw => pl.wnm w (hpm.mem_iff.mp hw), pl.g⟩, pl.r0, pl.rnd, by rw [hpm.length_eq]; have := pl.w0; omega, hpm.nodup_iff.mpr pl.wnd⟩
  have hsort : sortS ws' = ws := by
    refine sorted_unique ((sortS_perm ws').trans hpm) (sortS_sorted _) ?_
    rw [← pl.srt]; exact sortS_sorted _
  have ro := fun mu => read_ok rd mu
  have rok := fun mu => read_ok_k rd mu
  have ro' := fun mu => read_ok rd' mu
  rw [hsort] at ro'
  rw [pl.srt] at ro rok
  have sc := fun mu => scheme_ok pl mu
  have ll := fun mu => lines_law wr mu
  have ll' := fun mu => lines_law rd'.toWr mu
  have ts := fun mu => text_sch wr mu
  have tsk := fun mu => text_sch_k wr mu
  have so := fun mu => so_ok rd mu
  have jn := wr.txt_join
  have jn' := rd'.toWr.txt_join
  have p0 : gIx (planD rs ws gu) (.int 0) = some (.lst (rs.map rowD)) := rfl
  have p1 : gIx (planD rs ws gu) (.int 1) = some (.lst (ws.map .str)) := rfl
  have p2 : gIx (planD rs ws gu) (.int 2) = some gu := rfl
  have pm : gTup [.lst (rs.map rowD), .lst (ws'.map .str), gu] = some (planD rs ws' gu) := rfl
  have T : ∀ mu, c_law_same [.dat (.lst [.str (txt rs ws gu), .str (txt rs ws gu)]), .dat (.lst [.str (txt rs ws gu), .str (txt rs ws gu)])] [] mu = .ok (.bl true) mu := fun mu =>
    same_ok (p := .list [.str (txt rs ws gu), .str (txt rs ws gu)]) (by simp [toPy, toPyL]) (by simp [toPy, toPyL]) (.list _ (fun x hx => by
      simp only [List.mem_cons, List.not_mem_nil, or_false] at hx
      rcases hx with rfl | rfl <;> exact wr.tm_txt) (by simp)) rfl mu
  have ne : gNe (.str (txt rs ws gu)) (.str (txt rs ws gu)) = some (.bl false) := by rw [nes wr.txt_sk wr.txt_sk]; simp
  have nq : ∀ (f1 f2 : FE) (rho : List Sl) (mu : List D), f1 rho mu = .ok (schD rs ws gu) mu → f2 rho mu = .ok (schD rs ws gu) mu → eEqO true sS c_Scheme_deq f1 f2 rho mu = .ok (.bl false) mu := fun f1 f2 rho mu h1 h2 => ne_ok wr h1 h2
  generalize schD rs ws gu = O at *
  generalize linesD rs ws gu = L at *
  generalize linesD rs ws' gu = L' at *
  generalize planD rs ws' gu = P' at *
  generalize planD rs ws gu = P at *
  generalize txt rs ws gu = X at *
  generalize txt rs ws' gu = X' at *
  refine ⟨g2, .dat P, .dat O, .dat (.str X), .dat (.str X'), hg2, ?_⟩
  have gp : e2 gPow (eC (.int 10)) (eC (.int 9)) [.dat S, .own 0, t, a, b, c, d] [g] = .ok (.int 1000000000) [g] := by simp [e2, eC, Rs.bind, gPow, Rs.ofO]
  have sp1 : eCall c_law_spec (lCons (rVar 1) (lCons (rDat (eC (.int 2))) (lCons (rDat (eC (.int 5))) (lCons (rDat (eA gLst (aCons (eC (.int 0)) (aCons (eC (.int 1)) (aCons (e2 gPow (eC (.int 10)) (eC (.int 9))) (aCons (eC .non) (aNil))))))) (lNil))))) (lNil) [.dat S, .own 0, t, a, b, c, d] [g] = .ok P [g1] := by
    have : eA gLst (aCons (eC (.int 0)) (aCons (eC (.int 1)) (aCons (e2 gPow (eC (.int 10)) (eC (.int 9))) (aCons (eC .non) (aNil))))) [.dat S, .own 0, t, a, b, c, d] [g] = .ok (.lst [.int 0, .int 1, .int 1000000000, .non]) [g] :=
      eA_ok (mu1 := [g]) (aCons_ok (mu1 := [g]) rfl (aCons_ok (mu1 := [g]) rfl (aCons_ok gp (aCons_ok (mu1 := [g]) rfl rfl)))) (gl _ (by simp))
    exact callG (ss := [.own 0, .dat (.int 2), .dat (.int 5), .dat (.lst [.int 0, .int 1, .int 1000000000, .non])]) (ts := []) (mu1 := [g]) (mu2 := [g]) (lCons_ok (mu1 := [g]) rfl (lCons_ok (mu1 := [g]) (rDat_ok rfl) (lCons_ok (mu1 := [g]) (rDat_ok rfl) (lCons_ok (mu1 := [g]) (rDat_ok this) rfl)))) rfl e1
  refine seq_go (sSet_ok sp1) ?_
  show sSeq _ _ [.dat S, .own 0, t, .dat P, b, c, d] [g1] = _
  refine seq_go (r := [.dat S, .own 0, t, .dat P, .dat O, .dat (.str X), d]) (m := [g1]) ?_ ?_
  · have x1 : eCall c_law_scheme (lCons (rVar 3) (lNil)) (lNil) [.dat S, .own 0, t, .dat P, b, c, d] [g1] = .ok O [g1] := call1v rfl (sc _)
    have x2 : eM1 gJoin (eC (.str (Str.ofString "\n"))) (eCall c_law_scheme_lines (lCons (rVar 3) (lNil)) (lNil)) [.dat S, .own 0, t, .dat P, b, c, d] [g1] = .ok (.str X) [g1] := eM1_ok (mu1 := [g1]) rfl (call1v rfl (ll _)) jn
    exact par2_ok x1 x2
  have y1 : eA gLst (aCons (eCall c_scheme_text (lCons (rVar 4) (lNil)) (lNil)) (aCons (eCall c_scheme_text_0_scheme (lNil) (lCons (rVar 4) (lNil))) (aNil))) [.dat S, .own 0, t, .dat P, .dat O, .dat (.str X), d] [g1] = .ok (.lst [.str X, .str X]) [g1] := by
    refine eA_ok (mu1 := [g1]) (as := [.str X, .str X]) (aCons_ok (mu1 := [g1]) (call1v rfl (ts _)) (aCons_ok (mu1 := [g1]) ?_ rfl)) (gl _ (by simp))
    exact callG (ss := []) (ts := [.dat O]) (mu1 := [g1]) (mu2 := [g1]) rfl (lCons_ok (mu1 := [g1]) rfl rfl) (tsk _)
  have y2 : eA gLst (aCons (eVar 5) (aCons (eVar 5) (aNil))) [.dat S, .own 0, t, .dat P, .dat O, .dat (.str X), d] [g1] = .ok (.lst [.str X, .str X]) [g1] := eA_ok (mu1 := [g1]) (aCons_ok (mu1 := [g1]) rfl (aCons_ok (mu1 := [g1]) rfl rfl)) (gl _ (by simp))
  refine seq_go (sIf_no (mu1 := [g1]) (eNot_ok (b := true) ?_)) ?_
  · exact callG (ss := [.dat (.lst [.str X, .str X]), .dat (.lst [.str X, .str X])]) (ts := []) (mu1 := [g1]) (mu2 := [g1]) (lCons_ok (mu1 := [g1]) (rDat_ok y1) (lCons_ok (mu1 := [g1]) (rDat_ok y2) rfl)) rfl (T _)
  refine seq_go (sIf_no (mu1 := [g1]) (eOr_no (mu1 := [g1]) (eNot_ok (b := true) ?_) (nq _ _ _ _ ?_ rfl))) ?_
  · have : eCall c_read_scheme (lCons (rVar 5) (lNil)) (lNil) [.dat S, .own 0, t, .dat P, .dat O, .dat (.str X), d] [g1] = .ok O [g1] := call1v rfl (ro _)
    have z : eCall c_law_scheme_so (lCons (rDat (eCall c_read_scheme (lCons (rVar 5) (lNil)) (lNil))) (lCons (rVar 3) (lNil))) (lNil) [.dat S, .own 0, t, .dat P, .dat O, .dat (.str X), d] [g1] = .ok (.bl true) [g1] := by
      exact callG (ss := [.dat O, .dat P]) (ts := []) (mu1 := [g1]) (mu2 := [g1]) (lCons_ok (mu1 := [g1]) (rDat_ok this) (lCons_ok (mu1 := [g1]) rfl rfl)) rfl (so _)
    exact z
  · exact callG (ss := []) (ts := [.dat (.str X)]) (mu1 := [g1]) (mu2 := [g1]) rfl (lCons_ok (mu1 := [g1]) rfl rfl) (rok _)
  refine seq_go (sSet_ok (d := .str X') (mu1 := [g2]) ?_) ?_
  · refine eM1_ok (mu1 := [g1]) rfl (call1 (d := P') (mu1 := [g2]) (eA_ok (mu1 := [g2]) (aCons_ok (mu1 := [g1]) (e2_ok (mu1 := [g1]) rfl rfl p0) (aCons_ok (mu1 := [g2]) ?_ (aCons_ok (mu1 := [g2]) (e2_ok (mu1 := [g2]) rfl rfl p2) rfl))) pm) (ll' _)) jn'
    have w : e2 gIx (eVar 3) (eC (.int 1)) [.dat S, .own 0, t, .dat P, .dat O, .dat (.str X), d] [g1] = .ok (.lst (ws.map .str)) [g1] := e2_ok (mu1 := [g1]) rfl rfl p1
    exact callG (ss := [.own 0, .dat (.lst (ws.map .str))]) (ts := []) (mu1 := [g1]) (mu2 := [g1]) (lCons_ok (mu1 := [g1]) rfl (lCons_ok (mu1 := [g1]) (rDat_ok w) rfl)) rfl (e2m _)
  show sIf _ _ _ [.dat S, .own 0, t, .dat P, .dat O, .dat (.str X), .dat (.str X')] [g2] = _
  have rr : eCall c_read_scheme (lCons (rVar 6) (lNil)) (lNil) [.dat S, .own 0, t, .dat P, .dat O, .dat (.str X), .dat (.str X')] [g2] = .ok O [g2] := call1v rfl (ro' _)
  exact sIf_no (mu1 := [g2]) (eOr_no (mu1 := [g2]) (nq _ _ _ _ rr rfl) (e2_ok (mu1 := [g2]) (call1 rr (ts _)) rfl ne))
end
theorem law_k57 : ∀ ns : List Int, ns.length ≤ 63 → ∃ mu, m_law [.dat (.fro (ns.map .int))] [] = .ok (.bl true) mu := by
  intro ns hl
  obtain ⟨s, es⟩ := source_ok ns hl
  have hg0 : Rng (mkR ns 0 0 s 0) := ⟨ns, 0, 0, s, 0, rfl, by omega, by omega⟩
  generalize D.fro (ns.map .int) = S at *
  generalize mkR ns 0 0 s 0 = g0 at *
  refine ⟨[], ?_⟩
  obtain ⟨A, B, C, eF, hA, hB, hC⟩ : ∃ A B C, F_law = sSeq A (sSeq B C) ∧ A [.dat S, .no, .no, .no, .no, .no, .no] [] = .nx [.dat S, .own 0, .no, .no, .no, .no, .no] [g0] ∧
      (∃ g' u2 u3 u4 u5 u6, Rng g' ∧ B [.dat S, .own 0, .no, .no, .no, .no, .no] [g0] = .nx [.dat S, .own 0, u2, u3, u4, u5, u6] [g']) ∧ (∀ rho mu, C rho mu = .rt (.bl true) mu) := by
    refine ⟨_, _, _, rfl, ?_, ?_, ?_⟩
    · simp only [sNew, eCallN, aCons, aNil, eVar, Rs.bind, List.getElem?_cons_zero, List.length_cons, List.length_nil, List.map_cons, List.map_nil]
      rw [if_pos (by simp), es]
      rfl
    · obtain ⟨rho', mu', e, g', u2, u3, u4, u5, u6, hg', rfl, rfl⟩ := loop_inv (g := gN 2)
        (fun ds rho mu => ∃ (g : D) (u2 u3 u4 u5 u6 : Sl), Rng g ∧ rho = [.dat S, .own 0, u2, u3, u4, u5, u6] ∧ mu = [g])
        (by
          rintro d ds rho mu ⟨g, u2, u3, u4, u5, u6, hg, rfl, rfl⟩
          obtain ⟨g', a', b', c', d', hg', e⟩ := turn_ok S hg (.dat d) u3 u4 u5 u6
          exact ⟨_, rfl, _, _, e, g', _, _, _, _, _, hg', rfl, rfl⟩)
        (rangeD 0 3) [.dat S, .own 0, .no, .no, .no, .no, .no] [g0] ⟨g0, _, _, _, _, _, hg0, rfl, rfl⟩
      refine ⟨g', u2, u3, u4, u5, u6, hg', ?_⟩
      have it : aRange1 (aCons (eC (.int 3)) (aNil)) [.dat S, .own 0, .no, .no, .no, .no, .no] [g0] = .ok (rangeD 0 3) [g0] := by
        simp only [aRange1, aCons, aNil, eC, Rs.bind]
        rw [if_pos (by decide)]; rfl
      simp only [sFor, it, rBind]
      exact e
    · intro rho mu
      have pk : ∀ mu, cStar m_Scheme_plain 1 [.dat (.cls sS), .dat (.str (Str.ofString "b")), .dat (.str (Str.ofString "a"))] [] mu = .ok (schD [⟨Str.ofString "all", 1, 0, 1000, 0, 0⟩] [Str.ofString "a", Str.ofString "b"] (.int 0)) mu := fun mu => by
        have h := plain_ok
        simp only [c_Scheme_plain, cStar, callM, List.drop, datsS, Option.map, List.take, List.cons_append, List.nil_append, ownKs, renum, List.map_nil, putBack] at h ⊢
        rw [if_pos (by simp)] at h ⊢
        simp only [if_pos List.nodup_nil] at h ⊢
        revert h
        cases m_Scheme_plain [.dat (.cls sS), .dat (.tup [.str (Str.ofString "b"), .str (Str.ofString "a")])] [] with
        | ok d m => intro h; injection h with h1 _; rw [h1]
        | err _ _ => intro h; cases h
        | stuck => intro h; cases h
      have wr : Wr [⟨Str.ofString "all", 1, 0, 1000, 0, 0⟩] [Str.ofString "a", Str.ofString "b"] (.int 0) := by
        refine ⟨by simp, fun r hr => ?_, fun r hr => ?_, by simp, fun w hw => ?_, .inr ⟨0, rfl, by omega, by omega⟩⟩
        · have : r = ⟨Str.ofString "all", 1, 0, 1000, 0, 0⟩ := by simpa using hr
          subst this
          exact ⟨by decide, by decide, by decide, by decide, by decide, by decide, by decide, by decide, by decide⟩
        · have : r = ⟨Str.ofString "all", 1, 0, 1000, 0, 0⟩ := by simpa using hr
          subst this
          unfold Nm; decide +kernel
        · simp only [List.mem_cons, List.not_mem_nil, or_false] at hw
          rcases hw with rfl | rfl <;> (unfold Nm; decide +kernel)
      have ts := text_sch wr mu
      have ex : txt [⟨Str.ofString "all", 1, 0, 1000, 0, 0⟩] [Str.ofString "a", Str.ofString "b"] (.int 0) = Str.ofString "site all 1 0 1000 0 0\nitems a b\nstrangers 0" := by decide +kernel
      have sk := wr.txt_sk
      rw [ex] at ts sk
      have q : gEq (.str (Str.ofString "site all 1 0 1000 0 0\nitems a b\nstrangers 0")) (.str (Str.ofString "site all 1 0 1000 0 0\nitems a b\nstrangers 0")) = some (.bl true) := by rw [eqs sk sk]; simp
      refine sRet_ok (e2_ok (mu1 := mu) (call1 (mu1 := mu) ?_ ts) rfl q)
      have := pk mu
      simp only [eCls, lCons, rDat, lNil, eC, Rs.bind]
      exact this
  obtain ⟨g', u2, u3, u4, u5, u6, hg', hB⟩ := hB
  have key : F_law [.dat S, .no, .no, .no, .no, .no, .no] [] = .rt (.bl true) [g'] := by
    rw [eF]
    exact seq_go hA (seq_go hB (hC _ _))
  exact mirB_rt (N := 7) (fs := F_law) (rho := [.dat S]) (mu := []) (m := [g']) key rfl
end K57
end DL

set_option maxHeartbeats 4000000
namespace DL
open PySem PySem.Spec PyProof.Rows L2 ClX
namespace K57
def top (i : Nat) : Stmt := PySem.Challenge.pw_cutranks_k57_texts_of_schemes.main.body.getD i (.Pass ⟨0, 0, 0, 0⟩)
structure Fx (K : PySem.W.Frag) (mg : Str → Option Value) : Prop where
  f0 : mg (Str.ofString "int") = none
  f1 : mg (Str.ofString "list") = none
  f2 : mg (Str.ofString "_law_source") = some (.ref (He.ga K (Str.ofString "_law_source")))
  f3 : PySem.W.keepIn K (.ref (He.ga K (Str.ofString "_law_source"))) = true
  f4 : mg (Str.ofString "range") = none
  f5 : mg (Str.ofString "len") = none
  f6 : PySem.W.keepIn K (.ref (He.ga K (Str.ofString "_law_draw"))) = true
  f7 : mg (Str.ofString "_law_draw") = some (.ref (He.ga K (Str.ofString "_law_draw")))
  f8 : PySem.W.keepIn K (.ref (He.ga K (Str.ofString "_law_pick"))) = true
  f9 : mg (Str.ofString "_law_pick") = some (.ref (He.ga K (Str.ofString "_law_pick")))
  f10 : PySem.W.keepIn K (.ref (He.ga K (Str.ofString "_law_names"))) = true
  f11 : mg (Str.ofString "_law_names") = some (.ref (He.ga K (Str.ofString "_law_names")))
  f12 : mg (Str.ofString "min") = none
  f13 : PySem.W.keepIn K (.ref (He.ga K (Str.ofString "_law_site"))) = true
  f14 : mg (Str.ofString "_law_site") = some (.ref (He.ga K (Str.ofString "_law_site")))
  f15 : mg (Str.ofString "sorted") = none
  f16 : PySem.W.keepIn K (.ref (He.ga K (Str.ofString "_law_spec"))) = true
  f17 : mg (Str.ofString "_law_spec") = some (.ref (He.ga K (Str.ofString "_law_spec")))
  f18 : mg (Str.ofString "Scheme") = some (.ref (He.ga K (Str.ofString "Scheme")))
  f19 : CRead K (He.ga K (Str.ofString "Scheme")) (.type "type")
  f20 : ∃ t, CVal K (He.ga K (Str.ofString "Scheme")) (.type "type") (Str.ofString "MOST_SITES") (.int 4) (.int 4 t)
  f21 : mg (Str.ofString "enumerate") = none
  f22 : GD K mg (Str.ofString "MOST_SIGNS") (.int 8)
  f23 : GD K mg (Str.ofString "LETTERS") (.str (Str.ofString "abcdefghijklmnopqrstuvwxyz"))
  f24 : mg (Str.ofString "all") = none
  f25 : PySem.W.keepIn K (.ref (He.ga K (Str.ofString "is_name"))) = true
  f26 : mg (Str.ofString "is_name") = some (.ref (He.ga K (Str.ofString "is_name")))
  f27 : GD K mg (Str.ofString "MOST_WEIGHT") (.int 1000)
  f28 : GD K mg (Str.ofString "MOST_AMOUNT") (.int 1000000000000)
  f29 : PySem.W.keepIn K (.ref (He.ga K (Str.ofString "is_amount"))) = true
  f30 : mg (Str.ofString "is_amount") = some (.ref (He.ga K (Str.ofString "is_amount")))
  f31 : PySem.W.keepIn K (.ref (He.ga K (Str.ofString "is_site"))) = true
  f32 : mg (Str.ofString "is_site") = some (.ref (He.ga K (Str.ofString "is_site")))
  f33 : ∃ t, CVal K (He.ga K (Str.ofString "Scheme")) (.type "type") (Str.ofString "MOST_ITEMS") (.int 10) (.int 10 t)
  f34 : PySem.W.keepIn K (.ref (He.ga K (Str.ofString "repeated"))) = true
  f35 : mg (Str.ofString "repeated") = some (.ref (He.ga K (Str.ofString "repeated")))
  f36 : GD K mg (Str.ofString "MOST_STRANGERS") (.int 1000000000)
  f37 : mg (Str.ofString "tuple") = none
  f38 : AttrOk K mg [(Str.ofString "Scheme")] (Str.ofString "parts")
  f39 : AttrOk K mg [(Str.ofString "Scheme")] (Str.ofString "words")
  f40 : AttrOk K mg [(Str.ofString "Scheme")] (Str.ofString "guests")
  f41 : Mk K (He.ga K (Str.ofString "Scheme")) (He.ma K (He.ga K (Str.ofString "Scheme")) (Str.ofString "__init__"))
  f42 : PySem.W.keepIn K (.ref (He.ga K (Str.ofString "_law_scheme"))) = true
  f43 : mg (Str.ofString "_law_scheme") = some (.ref (He.ga K (Str.ofString "_law_scheme")))
  f44 : mg (Str.ofString "str") = none
  f45 : PySem.W.keepIn K (.ref (He.ga K (Str.ofString "_law_scheme_lines"))) = true
  f46 : mg (Str.ofString "_law_scheme_lines") = some (.ref (He.ga K (Str.ofString "_law_scheme_lines")))
  f47 : mg (Str.ofString "repr") = none
  f48 : PySem.W.keepIn K (.ref (He.ga K (Str.ofString "_law_same"))) = true
  f49 : mg (Str.ofString "_law_same") = some (.ref (He.ga K (Str.ofString "_law_same")))
  f50 : Meth K (He.ga K (Str.ofString "Scheme")) (Str.ofString "sites") (He.ma K (He.ga K (Str.ofString "Scheme")) (Str.ofString "sites"))
  f51 : Cls K (He.ga K (Str.ofString "Scheme"))
  f52 : PropOf K (He.ga K (Str.ofString "Scheme")) (Str.ofString "strangers") (He.ma K (He.ga K (Str.ofString "Scheme")) (Str.ofString "strangers")) (propG (Str.ofString "Scheme") (Str.ofString "strangers") K)
  f53 : Meth K (He.ga K (Str.ofString "Scheme")) (Str.ofString "names") (He.ma K (He.ga K (Str.ofString "Scheme")) (Str.ofString "names"))
  f54 : PySem.W.keepIn K (.ref (He.ga K (Str.ofString "scheme_lines"))) = true
  f55 : mg (Str.ofString "scheme_lines") = some (.ref (He.ga K (Str.ofString "scheme_lines")))
  f56 : PySem.W.keepIn K (.ref (He.ga K (Str.ofString "scheme_text"))) = true
  f57 : mg (Str.ofString "scheme_text") = some (.ref (He.ga K (Str.ofString "scheme_text")))
  f58 : MetAt K (He.ga K (Str.ofString "Scheme")) (Str.ofString "__len__") (He.ma K (He.ga K (Str.ofString "Scheme")) (Str.ofString "__len__"))
  f59 : MetAt K (He.ga K (Str.ofString "Scheme")) (Str.ofString "__repr__") (He.ma K (He.ga K (Str.ofString "Scheme")) (Str.ofString "__repr__"))
  f60 : Meth K (He.ga K (Str.ofString "Scheme")) (Str.ofString "site_named") (He.ma K (He.ga K (Str.ofString "Scheme")) (Str.ofString "site_named"))
  f61 : PySem.W.keepIn K (.ref (He.ga K (Str.ofString "_law_scheme_so"))) = true
  f62 : mg (Str.ofString "_law_scheme_so") = some (.ref (He.ga K (Str.ofString "_law_scheme_so")))
  f63 : GD K mg (Str.ofString "MOST_FIGURES") (.int 13)
  f64 : GD K mg (Str.ofString "FIGURES") (.str (Str.ofString "0123456789"))
  f65 : PySem.W.keepIn K (.ref (He.ga K (Str.ofString "is_number"))) = true
  f66 : mg (Str.ofString "is_number") = some (.ref (He.ga K (Str.ofString "is_number")))
  f67 : PySem.W.keepIn K (.ref (He.ga K (Str.ofString "is_signed"))) = true
  f68 : mg (Str.ofString "is_signed") = some (.ref (He.ga K (Str.ofString "is_signed")))
  f69 : PySem.W.keepIn K (.ref (He.ga K (Str.ofString "site_in"))) = true
  f70 : mg (Str.ofString "site_in") = some (.ref (He.ga K (Str.ofString "site_in")))
  f71 : PySem.W.keepIn K (.ref (He.ga K (Str.ofString "strangers_in"))) = true
  f72 : mg (Str.ofString "strangers_in") = some (.ref (He.ga K (Str.ofString "strangers_in")))
  f73 : PySem.W.keepIn K (.ref (He.ga K (Str.ofString "scheme_parts"))) = true
  f74 : mg (Str.ofString "scheme_parts") = some (.ref (He.ga K (Str.ofString "scheme_parts")))
  f75 : PySem.W.keepIn K (.ref (He.ga K (Str.ofString "read_scheme"))) = true
  f76 : mg (Str.ofString "read_scheme") = some (.ref (He.ga K (Str.ofString "read_scheme")))
  f77 : mg (Str.ofString "isinstance") = none
  f78 : MetAt K (He.ga K (Str.ofString "Scheme")) (Str.ofString "__eq__") (He.ma K (He.ga K (Str.ofString "Scheme")) (Str.ofString "__eq__"))
  f79 : PySem.W.mroIn K (He.ga K (Str.ofString "Scheme")) (.type "object") = some true
  f80 : PySem.W.findIn K (.ref (He.ga K (Str.ofString "Scheme"))) "__ne__" = some (some (.builtin "object.__ne__"))
  f81 : PySem.W.keepIn K (.ref (He.ga K (Str.ofString "_law_mixed"))) = true
  f82 : mg (Str.ofString "_law_mixed") = some (.ref (He.ga K (Str.ofString "_law_mixed")))
  f83 : CMet K (He.ga K (Str.ofString "Scheme")) (.type "type") (Str.ofString "plain") (He.ma K (He.ga K (Str.ofString "Scheme")) (Str.ofString "plain")) (He5.wf K (He.ga K (Str.ofString "Scheme")) "classmethod" (Str.ofString "plain"))
  isi : ∀ r ∈ tb_isi, IsiOk K mg r.1 r.2.1 r.2.2
  d_law_source : ∃ fd, FunD K (Str.ofString "_law_source") (Str.ofString "_law_source") (defArgs (top 33)) (defBody (top 33)) (defScope (top 33)) [] [] (He.ga K (Str.ofString "_law_source")) fd
  d_law_draw : ∃ fd, FunD K (Str.ofString "_law_draw") (Str.ofString "_law_draw") (defArgs (top 34)) (defBody (top 34)) (defScope (top 34)) [] [] (He.ga K (Str.ofString "_law_draw")) fd
  d_law_pick : ∃ fd, FunD K (Str.ofString "_law_pick") (Str.ofString "_law_pick") (defArgs (top 35)) (defBody (top 35)) (defScope (top 35)) [] [] (He.ga K (Str.ofString "_law_pick")) fd
  d_law_names : ∃ fd, FunD K (Str.ofString "_law_names") (Str.ofString "_law_names") (defArgs (top 38)) (defBody (top 38)) (defScope (top 38)) [] [] (He.ga K (Str.ofString "_law_names")) fd
  d_law_site : ∃ fd, FunD K (Str.ofString "_law_site") (Str.ofString "_law_site") (defArgs (top 39)) (defBody (top 39)) (defScope (top 39)) [] [] (He.ga K (Str.ofString "_law_site")) fd
  d_law_spec : ∃ fd, FunD K (Str.ofString "_law_spec") (Str.ofString "_law_spec") (defArgs (top 40)) (defBody (top 40)) (defScope (top 40)) [] [] (He.ga K (Str.ofString "_law_spec")) fd
  d_is_name : ∃ fd, FunD K (Str.ofString "is_name") (Str.ofString "is_name") (defArgs (top 16)) (defBody (top 16)) (defScope (top 16)) [] [] (He.ga K (Str.ofString "is_name")) fd
  d_is_amount : ∃ fd, FunD K (Str.ofString "is_amount") (Str.ofString "is_amount") (defArgs (top 17)) (defBody (top 17)) (defScope (top 17)) [] [] (He.ga K (Str.ofString "is_amount")) fd
  d_is_site : ∃ fd, FunD K (Str.ofString "is_site") (Str.ofString "is_site") (defArgs (top 18)) (defBody (top 18)) (defScope (top 18)) [] [] (He.ga K (Str.ofString "is_site")) fd
  d_repeated : ∃ fd, FunD K (Str.ofString "repeated") (Str.ofString "repeated") (defArgs (top 19)) (defBody (top 19)) (defScope (top 19)) [] [] (He.ga K (Str.ofString "repeated")) fd
  d_Scheme_dinit : ∃ fd, FunD K (Str.ofString "__init__") (Str.ofString "Scheme.__init__") (defArgs (inCls (top 20) 2)) (defBody (inCls (top 20) 2)) (defScope (inCls (top 20) 2)) [] [((Str.ofString "strangers"), .int 0)] (He.ma K (He.ga K (Str.ofString "Scheme")) (Str.ofString "__init__")) fd
  d_law_scheme : ∃ fd, FunD K (Str.ofString "_law_scheme") (Str.ofString "_law_scheme") (defArgs (top 41)) (defBody (top 41)) (defScope (top 41)) [] [] (He.ga K (Str.ofString "_law_scheme")) fd
  d_law_scheme_lines : ∃ fd, FunD K (Str.ofString "_law_scheme_lines") (Str.ofString "_law_scheme_lines") (defArgs (top 43)) (defBody (top 43)) (defScope (top 43)) [] [] (He.ga K (Str.ofString "_law_scheme_lines")) fd
  d_law_same : ∃ fd, FunD K (Str.ofString "_law_same") (Str.ofString "_law_same") (defArgs (top 37)) (defBody (top 37)) (defScope (top 37)) [] [] (He.ga K (Str.ofString "_law_same")) fd
  d_Scheme_sites : ∃ fd, FunD K (Str.ofString "sites") (Str.ofString "Scheme.sites") (defArgs (inCls (top 20) 5)) (defBody (inCls (top 20) 5)) (defScope (inCls (top 20) 5)) [] [] (He.ma K (He.ga K (Str.ofString "Scheme")) (Str.ofString "sites")) fd
  d_Scheme_strangers : ∃ fd, FunD K (Str.ofString "strangers") (Str.ofString "Scheme.strangers") (defArgs (inCls (top 20) 4)) (defBody (inCls (top 20) 4)) (defScope (inCls (top 20) 4)) [] [] (propG (Str.ofString "Scheme") (Str.ofString "strangers") K) fd
  d_Scheme_names : ∃ fd, FunD K (Str.ofString "names") (Str.ofString "Scheme.names") (defArgs (inCls (top 20) 6)) (defBody (inCls (top 20) 6)) (defScope (inCls (top 20) 6)) [] [] (He.ma K (He.ga K (Str.ofString "Scheme")) (Str.ofString "names")) fd
  d_scheme_lines : ∃ fd, FunD K (Str.ofString "scheme_lines") (Str.ofString "scheme_lines") (defArgs (top 26)) (defBody (top 26)) (defScope (top 26)) [] [] (He.ga K (Str.ofString "scheme_lines")) fd
  d_scheme_text : ∃ fd, FunD K (Str.ofString "scheme_text") (Str.ofString "scheme_text") (defArgs (top 27)) (defBody (top 27)) (defScope (top 27)) [] [] (He.ga K (Str.ofString "scheme_text")) fd
  d_Scheme_dlen : ∃ fd, FunD K (Str.ofString "__len__") (Str.ofString "Scheme.__len__") (defArgs (inCls (top 20) 10)) (defBody (inCls (top 20) 10)) (defScope (inCls (top 20) 10)) [] [] (He.ma K (He.ga K (Str.ofString "Scheme")) (Str.ofString "__len__")) fd
  d_Scheme_drepr : ∃ fd, FunD K (Str.ofString "__repr__") (Str.ofString "Scheme.__repr__") (defArgs (inCls (top 20) 11)) (defBody (inCls (top 20) 11)) (defScope (inCls (top 20) 11)) [] [] (He.ma K (He.ga K (Str.ofString "Scheme")) (Str.ofString "__repr__")) fd
  d_Scheme_site_named : ∃ fd, FunD K (Str.ofString "site_named") (Str.ofString "Scheme.site_named") (defArgs (inCls (top 20) 8)) (defBody (inCls (top 20) 8)) (defScope (inCls (top 20) 8)) [] [] (He.ma K (He.ga K (Str.ofString "Scheme")) (Str.ofString "site_named")) fd
  d_law_scheme_so : ∃ fd, FunD K (Str.ofString "_law_scheme_so") (Str.ofString "_law_scheme_so") (defArgs (top 42)) (defBody (top 42)) (defScope (top 42)) [] [] (He.ga K (Str.ofString "_law_scheme_so")) fd
  d_is_number : ∃ fd, FunD K (Str.ofString "is_number") (Str.ofString "is_number") (defArgs (top 24)) (defBody (top 24)) (defScope (top 24)) [] [] (He.ga K (Str.ofString "is_number")) fd
  d_is_signed : ∃ fd, FunD K (Str.ofString "is_signed") (Str.ofString "is_signed") (defArgs (top 25)) (defBody (top 25)) (defScope (top 25)) [] [] (He.ga K (Str.ofString "is_signed")) fd
  d_site_in : ∃ fd, FunD K (Str.ofString "site_in") (Str.ofString "site_in") (defArgs (top 28)) (defBody (top 28)) (defScope (top 28)) [] [] (He.ga K (Str.ofString "site_in")) fd
  d_strangers_in : ∃ fd, FunD K (Str.ofString "strangers_in") (Str.ofString "strangers_in") (defArgs (top 29)) (defBody (top 29)) (defScope (top 29)) [] [] (He.ga K (Str.ofString "strangers_in")) fd
  d_scheme_parts : ∃ fd, FunD K (Str.ofString "scheme_parts") (Str.ofString "scheme_parts") (defArgs (top 30)) (defBody (top 30)) (defScope (top 30)) [] [] (He.ga K (Str.ofString "scheme_parts")) fd
  d_read_scheme : ∃ fd, FunD K (Str.ofString "read_scheme") (Str.ofString "read_scheme") (defArgs (top 31)) (defBody (top 31)) (defScope (top 31)) [] [] (He.ga K (Str.ofString "read_scheme")) fd
  d_Scheme_deq : ∃ fd, FunD K (Str.ofString "__eq__") (Str.ofString "Scheme.__eq__") (defArgs (inCls (top 20) 9)) (defBody (inCls (top 20) 9)) (defScope (inCls (top 20) 9)) [] [] (He.ma K (He.ga K (Str.ofString "Scheme")) (Str.ofString "__eq__")) fd
  d_law_mixed : ∃ fd, FunD K (Str.ofString "_law_mixed") (Str.ofString "_law_mixed") (defArgs (top 36)) (defBody (top 36)) (defScope (top 36)) [] [] (He.ga K (Str.ofString "_law_mixed")) fd
  d_Scheme_plain : ∃ fd, FunD K (Str.ofString "plain") (Str.ofString "Scheme.plain") (defArgs (inCls (top 20) 3)) (defBody (inCls (top 20) 3)) (defScope (inCls (top 20) 3)) [] [] (He5.wf K (He.ga K (Str.ofString "Scheme")) "classmethod" (Str.ofString "plain")) fd
  d_law : ∃ fd, FunD K (Str.ofString "law") (Str.ofString "law") (defArgs (top 44)) (defBody (top 44)) (defScope (top 44)) [] [] (He.ga K (Str.ofString "law")) fd
theorem sc_law_source : FnScope [(Str.ofString "_law_script"), (Str.ofString "_law_seed"), (Str.ofString "_law_cell")] [(Str.ofString "_law_script")] (defScope (top 33)) := ⟨rfl, rfl, rfl, by decide +kernel, rfl, by decide +kernel, by decide +kernel⟩
theorem ok_law_source {P : Program} {w : World} {K : PySem.W.Frag} {mg : Str → Option Value} {base : Heap} (Z : Fx K mg) : ∃ fd, FnN P w K mg base 1 (He.ga K (Str.ofString "_law_source")) fd [(Str.ofString "_law_script")] m_law_source ∧ ∀ (s : Shared) (us : List Value), us.length = [(Str.ofString "_law_script")].length → BindsTo s fd ⟨us, []⟩ ([(Str.ofString "_law_script")].zip us) := by
  obtain ⟨fd, F⟩ := Z.d_law_source
  exact ⟨fd, fn_z (k := 0) F sc_law_source (fun _ _ _ _ _ E C O => jz_cons (js_set C 1 (je_int)) (jz_cons (js_for C O (ji_it (je_slice (je_var 0) (jo_none) (jo_some (je_int)))) (jg_name 2 C.nd) (jss_one (js_set C 1 (je_mod (je_intOf Z.f0 (ja_cons (je_add (je_add (je_mul (je_var 1) (je_int)) (je_mod (je_intOf Z.f0 (ja_cons (je_var 2) (ja_nil))) (je_int))) (je_int)) (ja_nil))) (je_int))))) (jz_ret (W := WB E) (jn_lst (ja_cons (je_list Z.f1 (ja_cons (je_slice (je_var 0) (jo_none) (jo_some (je_int))) (ja_nil))) (ja_cons (je_int) (ja_cons (je_int) (ja_cons (je_var 1) (ja_cons (je_int) (ja_nil)))))))))), fun s us hl => FunD.bindsA F (fun _ _ _ _ _ _ us hl => match us, hl with | [_], _ => rfl) s us hl⟩
theorem sc_law_draw : FnScope [(Str.ofString "_law_rng"), (Str.ofString "_law_many"), (Str.ofString "_law_cell"), (Str.ofString "_law_digit"), (Str.ofString "_law_root")] [(Str.ofString "_law_rng"), (Str.ofString "_law_many")] (defScope (top 34)) := ⟨rfl, rfl, rfl, by decide +kernel, rfl, by decide +kernel, by decide +kernel⟩
theorem g_law_draw {P : Program} {w : World} {K : PySem.W.Frag} {mg : Str → Option Value} {base : Heap} (Z : Fx K mg) {fd : FuncData} (F : FunD K (Str.ofString "_law_draw") (Str.ofString "_law_draw") (defArgs (top 34)) (defBody (top 34)) (defScope (top 34)) [] [] (He.ga K (Str.ofString "_law_draw")) fd) : FnG P w K mg base 1 (He.ga K (Str.ofString "_law_draw")) fd [(Str.ofString "_law_rng"), (Str.ofString "_law_many")] m_law_draw :=
  fn_g (k := 0) F sc_law_draw (fun _ _ _ _ _ E C O => jss_cons (js_if ((jw_and (jt_lt (je_ownIx 0 (je_int)) (je_var 1)) (jw_and1 (jt_lt (je_ownIx 0 (je_int)) (je_len Z.f5 (ja_cons (je_ownIx 0 (je_int)) (ja_nil)))))).jt) (jss_cons (js_set C 2 (je_ix (je_ownIx 0 (je_int)) (je_ownIx 0 (je_int)))) (jss_cons (js_ownSet 0 (je_int) (je_add (je_ownIx 0 (je_int)) (je_int))) (jss_cons (js_ownSet 0 (je_int) (je_mod (je_intOf Z.f0 (ja_cons (je_add (je_add (je_mul (je_ownIx 0 (je_int)) (je_int)) (je_mul (je_mod (je_intOf Z.f0 (ja_cons (je_var 2) (ja_nil))) (je_int)) (je_int))) (je_ownIx 0 (je_int))) (ja_nil))) (je_int))) (jss_one (js_ownSet 0 (je_int) (je_if (jt_ge (je_var 2) (je_pow (je_int) (je_int))) (je_var 2) (je_int))))))) (jss_nil)) (jss_cons (js_if (jt_ge (je_ownIx 0 (je_int)) (je_var 1)) (jss_cons (js_set C 3 (je_mod (je_intOf Z.f0 (ja_cons (je_ownIx 0 (je_int)) (ja_nil))) (je_var 1))) (jss_cons (js_ownSet 0 (je_int) (je_fdiv (je_ownIx 0 (je_int)) (je_var 1))) (jss_one (js_ret (je_var 3))))) (jss_nil)) (jss_cons (js_ownSet 0 (je_int) (je_add (je_ownIx 0 (je_int)) (je_int))) (jss_cons (js_set C 4 (je_mod (je_intOf Z.f0 (ja_cons (je_add (je_ownIx 0 (je_int)) (je_mul (je_ownIx 0 (je_int)) (je_int))) (ja_nil))) (je_int))) (jss_cons (js_ownSet 0 (je_int) (je_mod (je_intOf Z.f0 (ja_cons (je_add (je_add (je_mul (je_var 4) (je_var 4)) (je_mul (je_var 4) (je_int))) (je_int)) (ja_nil))) (je_int))) (jss_one (js_ret (je_mod (je_intOf Z.f0 (ja_cons (je_add (je_fdiv (je_ownIx 0 (je_int)) (je_int)) (je_mul (je_mod (je_intOf Z.f0 (ja_cons (je_ownIx 0 (je_int)) (ja_nil))) (je_int)) (je_int))) (ja_nil))) (je_var 1)))))))))
theorem ok_law_draw {P : Program} {w : World} {K : PySem.W.Frag} {mg : Str → Option Value} {base : Heap} (Z : Fx K mg) : FnK P w K mg base 1 (He.ga K (Str.ofString "_law_draw")) [] c_law_draw := by
  obtain ⟨fd, F⟩ := Z.d_law_draw
  exact (g_law_draw Z F).k (bd_w F [.p 0, .p 1] rfl rfl fun _ _ _ _ _ _ us ws hu hw => match us, ws, hu, hw with | [_, _], [], _, _ => rfl)
theorem sc_law_pick : FnScope [(Str.ofString "_law_rng"), (Str.ofString "_law_things")] [(Str.ofString "_law_rng"), (Str.ofString "_law_things")] (defScope (top 35)) := ⟨rfl, rfl, rfl, by decide +kernel, rfl, by decide +kernel, by decide +kernel⟩
theorem g_law_pick {P : Program} {w : World} {K : PySem.W.Frag} {mg : Str → Option Value} {base : Heap} (Z : Fx K mg) {fd : FuncData} (F : FunD K (Str.ofString "_law_pick") (Str.ofString "_law_pick") (defArgs (top 35)) (defBody (top 35)) (defScope (top 35)) [] [] (He.ga K (Str.ofString "_law_pick")) fd) : FnG P w K mg base 2 (He.ga K (Str.ofString "_law_pick")) fd [(Str.ofString "_law_rng"), (Str.ofString "_law_things")] m_law_pick :=
  fn_g (k := 1) F sc_law_pick (fun _ _ _ _ _ E C O => jss_one (js_ret (je_ix (je_var 1) (je_call Z.f7 (cal_fn C Z.f6 (ok_law_draw Z) (by decide)) (jl_cons (jr_var 0) (jl_cons (jr_dat (je_len Z.f5 (ja_cons (je_var 1) (ja_nil)))) (jl_nil)))))))
theorem ok_law_pick {P : Program} {w : World} {K : PySem.W.Frag} {mg : Str → Option Value} {base : Heap} (Z : Fx K mg) : FnK P w K mg base 2 (He.ga K (Str.ofString "_law_pick")) [] c_law_pick := by
  obtain ⟨fd, F⟩ := Z.d_law_pick
  exact (g_law_pick Z F).k (bd_w F [.p 0, .p 1] rfl rfl fun _ _ _ _ _ _ us ws hu hw => match us, ws, hu, hw with | [_, _], [], _, _ => rfl)
theorem sc_law_names : FnScope [(Str.ofString "_law_rng"), (Str.ofString "_law_many"), (Str.ofString "_law_abc"), (Str.ofString "_law_stem"), (Str.ofString "_law_at"), (Str.ofString "_law_first"), (Str.ofString "_law_step"), (Str.ofString "_law_found"), (Str.ofString "_law_k"), (Str.ofString "_law_letter")] [(Str.ofString "_law_rng"), (Str.ofString "_law_many")] (defScope (top 38)) := ⟨rfl, rfl, rfl, by decide +kernel, rfl, by decide +kernel, by decide +kernel⟩
theorem g_law_names {P : Program} {w : World} {K : PySem.W.Frag} {mg : Str → Option Value} {base : Heap} (Z : Fx K mg) {fd : FuncData} (F : FunD K (Str.ofString "_law_names") (Str.ofString "_law_names") (defArgs (top 38)) (defBody (top 38)) (defScope (top 38)) [] [] (He.ga K (Str.ofString "_law_names")) fd) : FnG P w K mg base 3 (He.ga K (Str.ofString "_law_names")) fd [(Str.ofString "_law_rng"), (Str.ofString "_law_many")] m_law_names :=
  fn_g (k := 2) F sc_law_names (fun _ _ _ _ _ E C O => jss_cons (js_set C 2 (je_str)) (jss_cons (js_set C 3 (je_join (je_str) (je_lc C [((Str.ofString "_law_k"), 8)] (ji_range1 Z.f4 (ja_cons (je_int) (ja_nil))) (fun _ _ _ _ _ => jg_name 8 (C.blk).nd) (fun _ _ _ _ _ => jts_nil) (fun _ _ _ _ _ => je_call Z.f9 (cal_fn (C.blk) Z.f8 (ok_law_pick Z) (by decide)) (jl_cons (jr_var 0) (jl_cons (jr_var 2) (jl_nil))))))) (jss_cons (js_par C 4 5 (jx_dat (je_call Z.f7 (cal_fn C Z.f6 (ok_law_draw Z) (by decide)) (jl_cons (jr_var 0) (jl_cons (jr_dat (je_int)) (jl_nil)))) (jx_dat (je_call Z.f7 (cal_fn C Z.f6 (ok_law_draw Z) (by decide)) (jl_cons (jr_var 0) (jl_cons (jr_dat (je_int)) (jl_nil)))) (jx_nil)))) (jss_cons (js_par C 6 7 (jx_dat (je_call Z.f9 (cal_fn C Z.f8 (ok_law_pick Z) (by decide)) (jl_cons (jr_var 0) (jl_cons (jr_dat (je_lst (ja_cons (je_int) (ja_cons (je_int) (ja_cons (je_int) (ja_cons (je_int) (ja_cons (je_int) (ja_cons (je_int) (ja_cons (je_int) (ja_cons (je_int) (ja_cons (je_int) (ja_cons (je_int) (ja_cons (je_int) (ja_cons (je_int) (ja_nil))))))))))))))) (jl_nil)))) (jx_new (jn_lst (ja_nil)) (jx_nil)))) (jss_cons (js_for C O (ji_range1 Z.f4 (ja_cons (je_var 1) (ja_nil))) (jg_name 8 C.nd) (jss_cons (js_set C 9 (je_ix (je_var 2) (je_mod (je_intOf Z.f0 (ja_cons (je_add (je_var 5) (je_mul (je_var 8) (je_var 6))) (ja_nil))) (je_int)))) (jss_one (js_append 7 (ja_cons (je_add (je_add (je_slice (je_var 3) (jo_none) (jo_some (je_var 4))) (je_var 9)) (je_slice (je_var 3) (jo_some (je_var 4)) (jo_some (je_add (je_var 4) (je_call Z.f7 (cal_fn C Z.f6 (ok_law_draw Z) (by decide)) (jl_cons (jr_var 0) (jl_cons (jr_dat (je_sub (je_int) (je_var 4))) (jl_nil)))))))) (ja_nil)))))) (jss_frz 7 (jss_one (js_ret (je_var 7)))))))))
theorem ok_law_names {P : Program} {w : World} {K : PySem.W.Frag} {mg : Str → Option Value} {base : Heap} (Z : Fx K mg) : FnK P w K mg base 3 (He.ga K (Str.ofString "_law_names")) [] c_law_names := by
  obtain ⟨fd, F⟩ := Z.d_law_names
  exact (g_law_names Z F).k (bd_w F [.p 0, .p 1] rfl rfl fun _ _ _ _ _ _ us ws hu hw => match us, ws, hu, hw with | [_, _], [], _, _ => rfl)
theorem sc_law_site : FnScope [(Str.ofString "_law_rng"), (Str.ofString "_law_name"), (Str.ofString "_law_low"), (Str.ofString "_law_top"), (Str.ofString "_law_weight"), (Str.ofString "_law_drift"), (Str.ofString "_law_k")] [(Str.ofString "_law_rng"), (Str.ofString "_law_name")] (defScope (top 39)) := ⟨rfl, rfl, rfl, by decide +kernel, rfl, by decide +kernel, by decide +kernel⟩
theorem g_law_site {P : Program} {w : World} {K : PySem.W.Frag} {mg : Str → Option Value} {base : Heap} (Z : Fx K mg) {fd : FuncData} (F : FunD K (Str.ofString "_law_site") (Str.ofString "_law_site") (defArgs (top 39)) (defBody (top 39)) (defScope (top 39)) [] [] (He.ga K (Str.ofString "_law_site")) fd) : FnG P w K mg base 3 (He.ga K (Str.ofString "_law_site")) fd [(Str.ofString "_law_rng"), (Str.ofString "_law_name")] m_law_site :=
  fn_g (k := 2) F sc_law_site (fun _ _ _ _ _ E C O => jss_cons (js_set C 2 (je_call Z.f9 (cal_fn C Z.f8 (ok_law_pick Z) (by decide)) (jl_cons (jr_var 0) (jl_cons (jr_dat (je_lst (ja_cons (je_int) (ja_cons (je_int) (ja_cons (je_int) (ja_cons (je_call Z.f7 (cal_fn C Z.f6 (ok_law_draw Z) (by decide)) (jl_cons (jr_var 0) (jl_cons (jr_dat (je_int)) (jl_nil)))) (ja_cons (je_sub (je_pow (je_int) (je_int)) (je_int)) (ja_nil)))))))) (jl_nil))))) (jss_cons (js_set C 3 (je_min2 C Z.f12 (ja_cons (je_pow (je_int) (je_int)) (ja_cons (je_add (je_var 2) (je_call Z.f9 (cal_fn C Z.f8 (ok_law_pick Z) (by decide)) (jl_cons (jr_var 0) (jl_cons (jr_dat (je_lst (ja_cons (je_int) (ja_cons (je_int) (ja_cons (je_int) (ja_cons (je_int) (ja_cons (je_int) (ja_cons (je_pow (je_int) (je_int)) (ja_nil))))))))) (jl_nil))))) (ja_nil))))) (jss_cons (js_set C 4 (je_call Z.f9 (cal_fn C Z.f8 (ok_law_pick Z) (by decide)) (jl_cons (jr_var 0) (jl_cons (jr_dat (je_lst (ja_cons (je_int) (ja_cons (je_int) (ja_cons (je_int) (ja_cons (je_int) (ja_cons (je_sub (je_int) (je_int)) (ja_cons (je_sub (je_int) (je_int)) (ja_cons (je_int) (ja_cons (je_int) (ja_nil))))))))))) (jl_nil))))) (jss_cons (js_lc (i := 5) C [((Str.ofString "_law_k"), 6)] (ji_range1 Z.f4 (ja_cons (je_int) (ja_nil))) (fun _ _ _ _ _ => jg_name 6 (C.blk).nd) (fun _ _ _ _ _ => jts_nil) (fun _ _ _ _ _ => je_call Z.f9 (cal_fn (C.blk) Z.f8 (ok_law_pick Z) (by decide)) (jl_cons (jr_var 0) (jl_cons (jr_dat (je_lst (ja_cons (je_int) (ja_cons (je_int) (ja_cons (je_int) (ja_cons (je_int) (ja_cons (je_pow (je_int) (je_int)) (ja_nil)))))))) (jl_nil))))) (jss_one (js_ret (je_tup (ja_cons (je_var 1) (ja_cons (je_var 4) (ja_cons (je_var 2) (ja_cons (je_var 3) (ja_cons (je_ix (je_var 5) (je_int)) (ja_cons (je_ix (je_var 5) (je_int)) (ja_nil))))))))))))))
theorem ok_law_site {P : Program} {w : World} {K : PySem.W.Frag} {mg : Str → Option Value} {base : Heap} (Z : Fx K mg) : FnK P w K mg base 3 (He.ga K (Str.ofString "_law_site")) [] c_law_site := by
  obtain ⟨fd, F⟩ := Z.d_law_site
  exact (g_law_site Z F).k (bd_w F [.p 0, .p 1] rfl rfl fun _ _ _ _ _ _ us ws hu hw => match us, ws, hu, hw with | [_, _], [], _, _ => rfl)
theorem sc_law_spec : FnScope [(Str.ofString "_law_rng"), (Str.ofString "_law_sites"), (Str.ofString "_law_items"), (Str.ofString "_law_guests"), (Str.ofString "_law_names_here"), (Str.ofString "_law_rows"), (Str.ofString "_law_first"), (Str.ofString "_law_name")] [(Str.ofString "_law_rng"), (Str.ofString "_law_sites"), (Str.ofString "_law_items"), (Str.ofString "_law_guests")] (defScope (top 40)) := ⟨rfl, rfl, rfl, by decide +kernel, rfl, by decide +kernel, by decide +kernel⟩
theorem g_law_spec {P : Program} {w : World} {K : PySem.W.Frag} {mg : Str → Option Value} {base : Heap} (Z : Fx K mg) {fd : FuncData} (F : FunD K (Str.ofString "_law_spec") (Str.ofString "_law_spec") (defArgs (top 40)) (defBody (top 40)) (defScope (top 40)) [] [] (He.ga K (Str.ofString "_law_spec")) fd) : FnG P w K mg base 4 (He.ga K (Str.ofString "_law_spec")) fd [(Str.ofString "_law_rng"), (Str.ofString "_law_sites"), (Str.ofString "_law_items"), (Str.ofString "_law_guests")] m_law_spec :=
  fn_g (k := 3) F sc_law_spec (fun _ _ _ _ _ E C O => jss_cons (js_set C 4 (je_call Z.f11 (cal_fn C Z.f10 (ok_law_names Z) (by decide)) (jl_cons (jr_var 0) (jl_cons (jr_dat (je_int)) (jl_nil))))) (jss_cons (js_lc (i := 5) C [((Str.ofString "_law_name"), 7)] (ji_it (je_slice (je_var 4) (jo_none) (jo_some (je_add (je_int) (je_call Z.f7 (cal_fn C Z.f6 (ok_law_draw Z) (by decide)) (jl_cons (jr_var 0) (jl_cons (jr_var 1) (jl_nil)))))))) (fun _ _ _ _ _ => jg_name 7 (C.blk).nd) (fun _ _ _ _ _ => jts_nil) (fun _ _ _ _ _ => je_call Z.f14 (cal_fn (C.blk) Z.f13 (ok_law_site Z) (by decide)) (jl_cons (jr_var 0) (jl_cons (jr_var 7) (jl_nil))))) (jss_cons (js_set C 6 (je_call Z.f9 (cal_fn C Z.f8 (ok_law_pick Z) (by decide)) (jl_cons (jr_var 0) (jl_cons (jr_dat (je_lst (ja_cons (je_int) (ja_cons (je_int) (ja_cons (je_int) (ja_nil)))))) (jl_nil))))) (jss_one (js_ret (je_tup (ja_cons (je_var 5) (ja_cons (je_sortedS C Z.f15 (ja_cons (je_slice (je_var 4) (jo_some (je_var 6)) (jo_some (je_add (je_add (je_var 6) (je_int)) (je_call Z.f7 (cal_fn C Z.f6 (ok_law_draw Z) (by decide)) (jl_cons (jr_var 0) (jl_cons (jr_dat (je_sub (je_var 2) (je_int))) (jl_nil))))))) (ja_nil))) (ja_cons (je_call Z.f9 (cal_fn C Z.f8 (ok_law_pick Z) (by decide)) (jl_cons (jr_var 0) (jl_cons (jr_var 3) (jl_nil)))) (ja_nil))))))))))
theorem ok_law_spec {P : Program} {w : World} {K : PySem.W.Frag} {mg : Str → Option Value} {base : Heap} (Z : Fx K mg) : FnK P w K mg base 4 (He.ga K (Str.ofString "_law_spec")) [] c_law_spec := by
  obtain ⟨fd, F⟩ := Z.d_law_spec
  exact (g_law_spec Z F).k (bd_w F [.p 0, .p 1, .p 2, .p 3] rfl rfl fun _ _ _ _ _ _ us ws hu hw => match us, ws, hu, hw with | [_, _, _, _], [], _, _ => rfl)
theorem sc_is_name : FnScope [(Str.ofString "text"), (Str.ofString "sign")] [(Str.ofString "text")] (defScope (top 16)) := ⟨rfl, rfl, rfl, by decide +kernel, rfl, by decide +kernel, by decide +kernel⟩
theorem g_is_name {P : Program} {w : World} {K : PySem.W.Frag} {mg : Str → Option Value} {base : Heap} (Z : Fx K mg) {fd : FuncData} (F : FunD K (Str.ofString "is_name") (Str.ofString "is_name") (defArgs (top 16)) (defBody (top 16)) (defScope (top 16)) [] [] (He.ga K (Str.ofString "is_name")) fd) : FnG P w K mg base 1 (He.ga K (Str.ofString "is_name")) fd [(Str.ofString "text")] m_is_name :=
  fn_g (k := 0) F sc_is_name (fun _ _ _ _ _ E C O => jss_one (js_ret (je_and (je_lele (je_int) (je_len Z.f5 (ja_cons (je_var 0) (ja_nil))) (je_glob Z.f22)) (je_one (je_all C Z.f24 (ja_cons (je_lc C [((Str.ofString "sign"), 1)] (ji_it (je_var 0)) (fun _ _ _ _ _ => jg_name 1 (C.blk).nd) (fun _ _ _ _ _ => jts_nil) (fun _ _ _ _ _ => je_in (C.blk) (je_var 1) (je_glob Z.f23))) (ja_nil)))))))
theorem ok_is_name {P : Program} {w : World} {K : PySem.W.Frag} {mg : Str → Option Value} {base : Heap} (Z : Fx K mg) : FnK P w K mg base 1 (He.ga K (Str.ofString "is_name")) [] c_is_name := by
  obtain ⟨fd, F⟩ := Z.d_is_name
  exact (g_is_name Z F).k (bd_w F [.p 0] rfl rfl fun _ _ _ _ _ _ us ws hu hw => match us, ws, hu, hw with | [_], [], _, _ => rfl)
theorem sc_is_amount : FnScope [(Str.ofString "value")] [(Str.ofString "value")] (defScope (top 17)) := ⟨rfl, rfl, rfl, by decide +kernel, rfl, by decide +kernel, by decide +kernel⟩
theorem g_is_amount {P : Program} {w : World} {K : PySem.W.Frag} {mg : Str → Option Value} {base : Heap} (Z : Fx K mg) {fd : FuncData} (F : FunD K (Str.ofString "is_amount") (Str.ofString "is_amount") (defArgs (top 17)) (defBody (top 17)) (defScope (top 17)) [] [] (He.ga K (Str.ofString "is_amount")) fd) : FnG P w K mg base 1 (He.ga K (Str.ofString "is_amount")) fd [(Str.ofString "value")] m_is_amount :=
  fn_g (k := 0) F sc_is_amount (fun _ _ _ _ _ E C O => jss_one (js_ret (je_lele (je_int) (je_var 0) (je_glob Z.f28))))
theorem ok_is_amount {P : Program} {w : World} {K : PySem.W.Frag} {mg : Str → Option Value} {base : Heap} (Z : Fx K mg) : FnK P w K mg base 1 (He.ga K (Str.ofString "is_amount")) [] c_is_amount := by
  obtain ⟨fd, F⟩ := Z.d_is_amount
  exact (g_is_amount Z F).k (bd_w F [.p 0] rfl rfl fun _ _ _ _ _ _ us ws hu hw => match us, ws, hu, hw with | [_], [], _, _ => rfl)
theorem sc_is_site : FnScope [(Str.ofString "row"), (Str.ofString "name"), (Str.ofString "weight"), (Str.ofString "low"), (Str.ofString "high"), (Str.ofString "rise"), (Str.ofString "fall")] [(Str.ofString "row")] (defScope (top 18)) := ⟨rfl, rfl, rfl, by decide +kernel, rfl, by decide +kernel, by decide +kernel⟩
theorem g_is_site {P : Program} {w : World} {K : PySem.W.Frag} {mg : Str → Option Value} {base : Heap} (Z : Fx K mg) {fd : FuncData} (F : FunD K (Str.ofString "is_site") (Str.ofString "is_site") (defArgs (top 18)) (defBody (top 18)) (defScope (top 18)) [] [] (He.ga K (Str.ofString "is_site")) fd) : FnG P w K mg base 2 (He.ga K (Str.ofString "is_site")) fd [(Str.ofString "row")] m_is_site :=
  fn_g (k := 1) F sc_is_site (fun _ _ _ _ _ E C O => jss_cons (js_if ((jw_or (jt_ne C (je_len Z.f5 (ja_cons (je_var 0) (ja_nil))) (je_int)) (jw_or1 (jt_not (jt_val (je_call Z.f26 (cal_fn C Z.f25 (ok_is_name Z) (by decide)) (jl_cons (jr_dat (je_ix (je_var 0) (je_int))) (jl_nil))))))).jt) (jss_one (js_ret (je_bl))) (jss_nil)) (jss_cons (js_tgt (je_var 0) (jg_tup C.calm (jgs_cons (jg_name 1 C.nd) (jgs_cons (jg_name 2 C.nd) (jgs_cons (jg_name 3 C.nd) (jgs_cons (jg_name 4 C.nd) (jgs_cons (jg_name 5 C.nd) (jgs_cons (jg_name 6 C.nd) (jgs_nil))))))))) (jss_cons (js_if ((jw_or (jt_not (jt_lele (je_neg (je_glob Z.f27)) (je_var 2) (je_glob Z.f27))) (jw_or (jt_not (jt_val (je_call Z.f30 (cal_fn C Z.f29 (ok_is_amount Z) (by decide)) (jl_cons (jr_var 5) (jl_nil))))) (jw_or1 (jt_not (jt_val (je_call Z.f30 (cal_fn C Z.f29 (ok_is_amount Z) (by decide)) (jl_cons (jr_var 6) (jl_nil)))))))).jt) (jss_one (js_ret (je_bl))) (jss_nil)) (jss_one (js_ret (je_and (je_call Z.f30 (cal_fn C Z.f29 (ok_is_amount Z) (by decide)) (jl_cons (jr_var 3) (jl_nil))) (je_and (je_call Z.f30 (cal_fn C Z.f29 (ok_is_amount Z) (by decide)) (jl_cons (jr_var 4) (jl_nil))) (je_one (je_le (je_var 3) (je_var 4))))))))))
theorem ok_is_site {P : Program} {w : World} {K : PySem.W.Frag} {mg : Str → Option Value} {base : Heap} (Z : Fx K mg) : FnK P w K mg base 2 (He.ga K (Str.ofString "is_site")) [] c_is_site := by
  obtain ⟨fd, F⟩ := Z.d_is_site
  exact (g_is_site Z F).k (bd_w F [.p 0] rfl rfl fun _ _ _ _ _ _ us ws hu hw => match us, ws, hu, hw with | [_], [], _, _ => rfl)
theorem sc_repeated : FnScope [(Str.ofString "rows"), (Str.ofString "at")] [(Str.ofString "rows"), (Str.ofString "at")] (defScope (top 19)) := ⟨rfl, rfl, rfl, by decide +kernel, rfl, by decide +kernel, by decide +kernel⟩
theorem g_repeated {P : Program} {w : World} {K : PySem.W.Frag} {mg : Str → Option Value} {base : Heap} (Z : Fx K mg) {fd : FuncData} (F : FunD K (Str.ofString "repeated") (Str.ofString "repeated") (defArgs (top 19)) (defBody (top 19)) (defScope (top 19)) [] [] (He.ga K (Str.ofString "repeated")) fd) : FnG P w K mg base 1 (He.ga K (Str.ofString "repeated")) fd [(Str.ofString "rows"), (Str.ofString "at")] m_repeated :=
  fn_g (k := 0) F sc_repeated (fun _ _ _ _ _ E C O => jss_one (js_ret (je_in C (je_ix (je_var 0) (je_var 1)) (je_slice (je_var 0) (jo_none) (jo_some (je_var 1))))))
theorem ok_repeated {P : Program} {w : World} {K : PySem.W.Frag} {mg : Str → Option Value} {base : Heap} (Z : Fx K mg) : FnK P w K mg base 1 (He.ga K (Str.ofString "repeated")) [] c_repeated := by
  obtain ⟨fd, F⟩ := Z.d_repeated
  exact (g_repeated Z F).k (bd_w F [.p 0, .p 1] rfl rfl fun _ _ _ _ _ _ us ws hu hw => match us, ws, hu, hw with | [_, _], [], _, _ => rfl)
theorem sc_Scheme_dinit : FnScope [(Str.ofString "self"), (Str.ofString "sites"), (Str.ofString "items"), (Str.ofString "strangers"), (Str.ofString "at"), (Str.ofString "row"), (Str.ofString "name"), (Str.ofString "early")] [(Str.ofString "self"), (Str.ofString "sites"), (Str.ofString "items"), (Str.ofString "strangers")] (defScope (inCls (top 20) 2)) := ⟨rfl, rfl, rfl, by decide +kernel, rfl, by decide +kernel, by decide +kernel⟩
theorem g_Scheme_dinit {P : Program} {w : World} {K : PySem.W.Frag} {mg : Str → Option Value} {base : Heap} (Z : Fx K mg) {fd : FuncData} (F : FunD K (Str.ofString "__init__") (Str.ofString "Scheme.__init__") (defArgs (inCls (top 20) 2)) (defBody (inCls (top 20) 2)) (defScope (inCls (top 20) 2)) [] [((Str.ofString "strangers"), .int 0)] (He.ma K (He.ga K (Str.ofString "Scheme")) (Str.ofString "__init__")) fd) : FnG P w K mg base 3 (He.ma K (He.ga K (Str.ofString "Scheme")) (Str.ofString "__init__")) fd [(Str.ofString "self"), (Str.ofString "sites"), (Str.ofString "items"), (Str.ofString "strangers")] m_Scheme_dinit :=
  fn_g (k := 2) F sc_Scheme_dinit (fun _ _ _ _ _ E C O => jss_cons (js_if (jt_not (jt_lele (je_int) (je_len Z.f5 (ja_cons (je_var 1) (ja_nil))) (je_cval Z.f18 Z.f19 Z.f20.choose_spec (fun _ => .int _)))) (jss_one (js_never)) (jss_nil)) (jss_cons (js_for C O (ji_enumA Z.f21 (ja_cons (je_var 1) (ja_nil))) (jg_tup C.calm (jgs_cons (jg_name 4 C.nd) (jgs_cons (jg_name 5 C.nd) (jgs_nil)))) (jss_one (js_if ((jw_or (jt_not (jt_val (je_call Z.f32 (cal_fn C Z.f31 (ok_is_site Z) (by decide)) (jl_cons (jr_var 5) (jl_nil))))) (jw_or1 (jt_in C (je_ix (je_var 5) (je_int)) (je_lc C [((Str.ofString "early"), 7)] (ji_it (je_slice (je_var 1) (jo_none) (jo_some (je_var 4)))) (fun _ _ _ _ _ => jg_name 7 (C.blk).nd) (fun _ _ _ _ _ => jts_nil) (fun _ _ _ _ _ => je_ix (je_var 7) (je_int)))))).jt) (jss_one (js_never)) (jss_nil)))) (jss_cons (js_if (jt_not (jt_lele (je_int) (je_len Z.f5 (ja_cons (je_var 2) (ja_nil))) (je_cval Z.f18 Z.f19 Z.f33.choose_spec (fun _ => .int _)))) (jss_one (js_never)) (jss_nil)) (jss_cons (js_for C O (ji_enumA Z.f21 (ja_cons (je_var 2) (ja_nil))) (jg_tup C.calm (jgs_cons (jg_name 4 C.nd) (jgs_cons (jg_name 6 C.nd) (jgs_nil)))) (jss_one (js_if ((jw_or (jt_not (jt_val (je_call Z.f26 (cal_fn C Z.f25 (ok_is_name Z) (by decide)) (jl_cons (jr_var 6) (jl_nil))))) (jw_or1 (jt_val (je_call Z.f35 (cal_fn C Z.f34 (ok_repeated Z) (by decide)) (jl_cons (jr_var 2) (jl_cons (jr_var 4) (jl_nil))))))).jt) (jss_one (js_never)) (jss_nil)))) (jss_cons (js_if ((jw_and (jt_isNot (je_var 3) (je_non)) (jw_and1 (jt_not (jt_lele (je_int) (je_var 3) (je_glob Z.f36))))).jt) (jss_one (js_never)) (jss_nil)) (jss_cons (js_attr [(Str.ofString "Scheme")] Z.f38 0 (je_lc C [((Str.ofString "row"), 5)] (ji_it (je_var 1)) (fun _ _ _ _ _ => jg_name 5 (C.blk).nd) (fun _ _ _ _ _ => jts_nil) (fun _ _ _ _ _ => je_tuple Z.f37 (ja_cons (je_var 5) (ja_nil))))) (jss_cons (js_attr [(Str.ofString "Scheme")] Z.f39 0 (je_sortedS C Z.f15 (ja_cons (je_list Z.f1 (ja_cons (je_var 2) (ja_nil))) (ja_nil)))) (jss_one (js_attr [(Str.ofString "Scheme")] Z.f40 0 (je_var 3))))))))))
theorem ok_Scheme_dinit_3_strangers {P : Program} {w : World} {K : PySem.W.Frag} {mg : Str → Option Value} {base : Heap} (Z : Fx K mg) : FnK P w K mg base 3 (He.ma K (He.ga K (Str.ofString "Scheme")) (Str.ofString "__init__")) [(Str.ofString "strangers")] c_Scheme_dinit_3_strangers := by
  obtain ⟨fd, F⟩ := Z.d_Scheme_dinit
  exact (g_Scheme_dinit Z F).k (bd_w F [.p 0, .p 1, .p 2, .k 0] rfl rfl fun _ _ _ _ _ _ us ws hu hw => match us, ws, hu, hw with | [_, _, _], [_], _, _ => rfl)
theorem ok_Scheme_dinit_3 {P : Program} {w : World} {K : PySem.W.Frag} {mg : Str → Option Value} {base : Heap} (Z : Fx K mg) : FnK P w K mg base 3 (He.ma K (He.ga K (Str.ofString "Scheme")) (Str.ofString "__init__")) [] c_Scheme_dinit_3 := by
  obtain ⟨fd, F⟩ := Z.d_Scheme_dinit
  exact (g_Scheme_dinit Z F).k (bd_d0 F [(.int 0)] rfl (by simp) (.cons (.int _) (.nil)) rp_any fun _ _ _ _ _ _ us ks hu hk => match us, ks, hu, hk with | [_, _, _], [_], _, _ => ⟨_, _, _, _, _, _, rfl, rfl, rfl⟩)
theorem sc_law_scheme : FnScope [(Str.ofString "_law_spec_here")] [(Str.ofString "_law_spec_here")] (defScope (top 41)) := ⟨rfl, rfl, rfl, by decide +kernel, rfl, by decide +kernel, by decide +kernel⟩
theorem g_law_scheme {P : Program} {w : World} {K : PySem.W.Frag} {mg : Str → Option Value} {base : Heap} (Z : Fx K mg) {fd : FuncData} (F : FunD K (Str.ofString "_law_scheme") (Str.ofString "_law_scheme") (defArgs (top 41)) (defBody (top 41)) (defScope (top 41)) [] [] (He.ga K (Str.ofString "_law_scheme")) fd) : FnG P w K mg base 5 (He.ga K (Str.ofString "_law_scheme")) fd [(Str.ofString "_law_spec_here")] m_law_scheme :=
  fn_g (k := 4) F sc_law_scheme (fun _ _ _ _ _ E C O => jss_one (js_ret (je_callK Z.f18 (cal_mk C Z.f41 Z.f18 (ok_Scheme_dinit_3_strangers Z) (by decide)) (jl_cons (jr_dat (je_ix (je_var 0) (je_int))) (jl_cons (jr_dat (je_ix (je_var 0) (je_int))) (jl_nil))) (jk_cons (jr_dat (je_ix (je_var 0) (je_int))) (jk_nil)))))
theorem ok_law_scheme {P : Program} {w : World} {K : PySem.W.Frag} {mg : Str → Option Value} {base : Heap} (Z : Fx K mg) : FnK P w K mg base 5 (He.ga K (Str.ofString "_law_scheme")) [] c_law_scheme := by
  obtain ⟨fd, F⟩ := Z.d_law_scheme
  exact (g_law_scheme Z F).k (bd_w F [.p 0] rfl rfl fun _ _ _ _ _ _ us ws hu hw => match us, ws, hu, hw with | [_], [], _, _ => rfl)
theorem sc_law_scheme_lines : FnScope [(Str.ofString "_law_spec_here"), (Str.ofString "_law_lines"), (Str.ofString "_law_row"), (Str.ofString "_law_part")] [(Str.ofString "_law_spec_here")] (defScope (top 43)) := ⟨rfl, rfl, rfl, by decide +kernel, rfl, by decide +kernel, by decide +kernel⟩
theorem g_law_scheme_lines {P : Program} {w : World} {K : PySem.W.Frag} {mg : Str → Option Value} {base : Heap} (Z : Fx K mg) {fd : FuncData} (F : FunD K (Str.ofString "_law_scheme_lines") (Str.ofString "_law_scheme_lines") (defArgs (top 43)) (defBody (top 43)) (defScope (top 43)) [] [] (He.ga K (Str.ofString "_law_scheme_lines")) fd) : FnG P w K mg base 1 (He.ga K (Str.ofString "_law_scheme_lines")) fd [(Str.ofString "_law_spec_here")] m_law_scheme_lines :=
  fn_g (k := 0) F sc_law_scheme_lines (fun _ _ _ _ _ E C O => jss_cons (js_lcN (i := 1) C [((Str.ofString "_law_row"), 2)] (ji_it (je_ix (je_var 0) (je_int))) (fun _ _ _ _ _ => jg_name 2 (C.blk).nd) (fun _ _ _ _ _ => jts_nil) (fun _ _ _ _ _ => je_join (je_str) (je_add (je_lst (ja_cons (je_str) (ja_nil))) (je_lc (C.blk) [((Str.ofString "_law_part"), 3)] (ji_it (je_var 2)) (fun _ _ _ _ _ => jg_name 3 ((C.blk).blk).nd) (fun _ _ _ _ _ => jts_nil) (fun _ _ _ _ _ => je_strOf Z.f44 (ja_cons (je_var 3) (ja_nil))))))) (jss_cons (js_append 1 (ja_cons (je_join (je_str) (je_add (je_lst (ja_cons (je_str) (ja_nil))) (je_ix (je_var 0) (je_int)))) (ja_nil))) (jss_frz 1 (jss_one (js_ret (je_add (je_var 1) (je_lst (ja_cons (je_add (je_str) (je_if (jt_is (je_ix (je_var 0) (je_int)) (je_non)) (je_str) (je_strOf Z.f44 (ja_cons (je_ix (je_var 0) (je_int)) (ja_nil))))) (ja_nil)))))))))
theorem ok_law_scheme_lines {P : Program} {w : World} {K : PySem.W.Frag} {mg : Str → Option Value} {base : Heap} (Z : Fx K mg) : FnK P w K mg base 1 (He.ga K (Str.ofString "_law_scheme_lines")) [] c_law_scheme_lines := by
  obtain ⟨fd, F⟩ := Z.d_law_scheme_lines
  exact (g_law_scheme_lines Z F).k (bd_w F [.p 0] rfl rfl fun _ _ _ _ _ _ us ws hu hw => match us, ws, hu, hw with | [_], [], _, _ => rfl)
theorem sc_law_same : FnScope [(Str.ofString "_law_found"), (Str.ofString "_law_due")] [(Str.ofString "_law_found"), (Str.ofString "_law_due")] (defScope (top 37)) := ⟨rfl, rfl, rfl, by decide +kernel, rfl, by decide +kernel, by decide +kernel⟩
theorem g_law_same {P : Program} {w : World} {K : PySem.W.Frag} {mg : Str → Option Value} {base : Heap} (Z : Fx K mg) {fd : FuncData} (F : FunD K (Str.ofString "_law_same") (Str.ofString "_law_same") (defArgs (top 37)) (defBody (top 37)) (defScope (top 37)) [] [] (He.ga K (Str.ofString "_law_same")) fd) : FnG P w K mg base 1 (He.ga K (Str.ofString "_law_same")) fd [(Str.ofString "_law_found"), (Str.ofString "_law_due")] m_law_same :=
  fn_g (k := 0) F sc_law_same (fun _ _ _ _ _ E C O => jss_one (js_ret (je_eq C (je_repr C Z.f47 (ja_cons (je_var 0) (ja_nil))) (je_repr C Z.f47 (ja_cons (je_var 1) (ja_nil))))))
theorem ok_law_same {P : Program} {w : World} {K : PySem.W.Frag} {mg : Str → Option Value} {base : Heap} (Z : Fx K mg) : FnK P w K mg base 1 (He.ga K (Str.ofString "_law_same")) [] c_law_same := by
  obtain ⟨fd, F⟩ := Z.d_law_same
  exact (g_law_same Z F).k (bd_w F [.p 0, .p 1] rfl rfl fun _ _ _ _ _ _ us ws hu hw => match us, ws, hu, hw with | [_, _], [], _, _ => rfl)
theorem sc_Scheme_sites : FnScope [(Str.ofString "self")] [(Str.ofString "self")] (defScope (inCls (top 20) 5)) := ⟨rfl, rfl, rfl, by decide +kernel, rfl, by decide +kernel, by decide +kernel⟩
theorem g_Scheme_sites {P : Program} {w : World} {K : PySem.W.Frag} {mg : Str → Option Value} {base : Heap} (Z : Fx K mg) {fd : FuncData} (F : FunD K (Str.ofString "sites") (Str.ofString "Scheme.sites") (defArgs (inCls (top 20) 5)) (defBody (inCls (top 20) 5)) (defScope (inCls (top 20) 5)) [] [] (He.ma K (He.ga K (Str.ofString "Scheme")) (Str.ofString "sites")) fd) : FnG P w K mg base 1 (He.ma K (He.ga K (Str.ofString "Scheme")) (Str.ofString "sites")) fd [(Str.ofString "self")] m_Scheme_sites :=
  fn_g (k := 0) F sc_Scheme_sites (fun _ _ _ _ _ E C O => jss_one (js_ret (je_list Z.f1 (ja_cons (je_attr [(Str.ofString "Scheme")] Z.f38 (jr_var 0)) (ja_nil)))))
theorem ok_Scheme_sites {P : Program} {w : World} {K : PySem.W.Frag} {mg : Str → Option Value} {base : Heap} (Z : Fx K mg) : FnK P w K mg base 1 (He.ma K (He.ga K (Str.ofString "Scheme")) (Str.ofString "sites")) [] c_Scheme_sites := by
  obtain ⟨fd, F⟩ := Z.d_Scheme_sites
  exact (g_Scheme_sites Z F).k (bd_w F [.p 0] rfl rfl fun _ _ _ _ _ _ us ws hu hw => match us, ws, hu, hw with | [_], [], _, _ => rfl)
theorem sc_Scheme_strangers : FnScope [(Str.ofString "self")] [(Str.ofString "self")] (defScope (inCls (top 20) 4)) := ⟨rfl, rfl, rfl, by decide +kernel, rfl, by decide +kernel, by decide +kernel⟩
theorem g_Scheme_strangers {P : Program} {w : World} {K : PySem.W.Frag} {mg : Str → Option Value} {base : Heap} (Z : Fx K mg) {fd : FuncData} (F : FunD K (Str.ofString "strangers") (Str.ofString "Scheme.strangers") (defArgs (inCls (top 20) 4)) (defBody (inCls (top 20) 4)) (defScope (inCls (top 20) 4)) [] [] (propG (Str.ofString "Scheme") (Str.ofString "strangers") K) fd) : FnG P w K mg base 1 (propG (Str.ofString "Scheme") (Str.ofString "strangers") K) fd [(Str.ofString "self")] m_Scheme_strangers :=
  fn_g (k := 0) F sc_Scheme_strangers (fun _ _ _ _ _ E C O => jss_one (js_ret (je_attr [(Str.ofString "Scheme")] Z.f40 (jr_var 0))))
theorem ok_Scheme_strangers {P : Program} {w : World} {K : PySem.W.Frag} {mg : Str → Option Value} {base : Heap} (Z : Fx K mg) : FnK P w K mg base 1 (propG (Str.ofString "Scheme") (Str.ofString "strangers") K) [] c_Scheme_strangers := by
  obtain ⟨fd, F⟩ := Z.d_Scheme_strangers
  exact (g_Scheme_strangers Z F).k (bd_w F [.p 0] rfl rfl fun _ _ _ _ _ _ us ws hu hw => match us, ws, hu, hw with | [_], [], _, _ => rfl)
theorem sc_Scheme_names : FnScope [(Str.ofString "self")] [(Str.ofString "self")] (defScope (inCls (top 20) 6)) := ⟨rfl, rfl, rfl, by decide +kernel, rfl, by decide +kernel, by decide +kernel⟩
theorem g_Scheme_names {P : Program} {w : World} {K : PySem.W.Frag} {mg : Str → Option Value} {base : Heap} (Z : Fx K mg) {fd : FuncData} (F : FunD K (Str.ofString "names") (Str.ofString "Scheme.names") (defArgs (inCls (top 20) 6)) (defBody (inCls (top 20) 6)) (defScope (inCls (top 20) 6)) [] [] (He.ma K (He.ga K (Str.ofString "Scheme")) (Str.ofString "names")) fd) : FnG P w K mg base 1 (He.ma K (He.ga K (Str.ofString "Scheme")) (Str.ofString "names")) fd [(Str.ofString "self")] m_Scheme_names :=
  fn_g (k := 0) F sc_Scheme_names (fun _ _ _ _ _ E C O => jss_one (js_ret (je_list Z.f1 (ja_cons (je_attr [(Str.ofString "Scheme")] Z.f39 (jr_var 0)) (ja_nil)))))
theorem ok_Scheme_names {P : Program} {w : World} {K : PySem.W.Frag} {mg : Str → Option Value} {base : Heap} (Z : Fx K mg) : FnK P w K mg base 1 (He.ma K (He.ga K (Str.ofString "Scheme")) (Str.ofString "names")) [] c_Scheme_names := by
  obtain ⟨fd, F⟩ := Z.d_Scheme_names
  exact (g_Scheme_names Z F).k (bd_w F [.p 0] rfl rfl fun _ _ _ _ _ _ us ws hu hw => match us, ws, hu, hw with | [_], [], _, _ => rfl)
theorem sc_scheme_lines : FnScope [(Str.ofString "scheme"), (Str.ofString "found"), (Str.ofString "many"), (Str.ofString "row"), (Str.ofString "part")] [(Str.ofString "scheme")] (defScope (top 26)) := ⟨rfl, rfl, rfl, by decide +kernel, rfl, by decide +kernel, by decide +kernel⟩
theorem g_scheme_lines {P : Program} {w : World} {K : PySem.W.Frag} {mg : Str → Option Value} {base : Heap} (Z : Fx K mg) {fd : FuncData} (F : FunD K (Str.ofString "scheme_lines") (Str.ofString "scheme_lines") (defArgs (top 26)) (defBody (top 26)) (defScope (top 26)) [] [] (He.ga K (Str.ofString "scheme_lines")) fd) : FnG P w K mg base 3 (He.ga K (Str.ofString "scheme_lines")) fd [(Str.ofString "scheme")] m_scheme_lines :=
  fn_g (k := 2) F sc_scheme_lines (fun _ _ _ _ _ E C O => jss_cons (js_lc (i := 1) C [((Str.ofString "row"), 3)] (ji_it (je_meth0 (jr_var 0) Z.f18 Z.f51 Z.f50 (cal_fn C Z.f50.kp (ok_Scheme_sites Z) (by decide)))) (fun _ _ _ _ _ => jg_name 3 (C.blk).nd) (fun _ _ _ _ _ => jts_nil) (fun _ _ _ _ _ => je_join (je_str) (je_lst (ja_cons (je_str) (ja_star (je_lc (C.blk) [((Str.ofString "part"), 4)] (ji_it (je_var 3)) (fun _ _ _ _ _ => jg_name 4 ((C.blk).blk).nd) (fun _ _ _ _ _ => jts_nil) (fun _ _ _ _ _ => je_strOf Z.f44 (ja_cons (je_var 4) (ja_nil)))) (ja_nil)))))) (jss_cons (js_set C 2 (je_if (jt_is (je_prop C Z.f18 Z.f51 Z.f52 (ok_Scheme_strangers Z) (by decide) (jr_var 0)) (je_non)) (je_str) (je_strOf Z.f44 (ja_cons (je_prop C Z.f18 Z.f51 Z.f52 (ok_Scheme_strangers Z) (by decide) (jr_var 0)) (ja_nil))))) (jss_one (js_ret (je_lst (ja_star (je_var 1) (ja_cons (je_join (je_str) (je_lst (ja_cons (je_str) (ja_star (je_meth0 (jr_var 0) Z.f18 Z.f51 Z.f53 (cal_fn C Z.f53.kp (ok_Scheme_names Z) (by decide))) (ja_nil))))) (ja_cons (je_joined (.cons (je_str) (.cons (je_fmt (je_var 2)) (.nil)))) (ja_nil)))))))))
theorem ok_scheme_lines {P : Program} {w : World} {K : PySem.W.Frag} {mg : Str → Option Value} {base : Heap} (Z : Fx K mg) : FnK P w K mg base 3 (He.ga K (Str.ofString "scheme_lines")) [] c_scheme_lines := by
  obtain ⟨fd, F⟩ := Z.d_scheme_lines
  exact (g_scheme_lines Z F).k (bd_w F [.p 0] rfl rfl fun _ _ _ _ _ _ us ws hu hw => match us, ws, hu, hw with | [_], [], _, _ => rfl)
theorem sc_scheme_text : FnScope [(Str.ofString "scheme")] [(Str.ofString "scheme")] (defScope (top 27)) := ⟨rfl, rfl, rfl, by decide +kernel, rfl, by decide +kernel, by decide +kernel⟩
theorem g_scheme_text {P : Program} {w : World} {K : PySem.W.Frag} {mg : Str → Option Value} {base : Heap} (Z : Fx K mg) {fd : FuncData} (F : FunD K (Str.ofString "scheme_text") (Str.ofString "scheme_text") (defArgs (top 27)) (defBody (top 27)) (defScope (top 27)) [] [] (He.ga K (Str.ofString "scheme_text")) fd) : FnG P w K mg base 4 (He.ga K (Str.ofString "scheme_text")) fd [(Str.ofString "scheme")] m_scheme_text :=
  fn_g (k := 3) F sc_scheme_text (fun _ _ _ _ _ E C O => jss_one (js_ret (je_join (je_str) (je_call Z.f55 (cal_fn C Z.f54 (ok_scheme_lines Z) (by decide)) (jl_cons (jr_var 0) (jl_nil))))))
theorem ok_scheme_text {P : Program} {w : World} {K : PySem.W.Frag} {mg : Str → Option Value} {base : Heap} (Z : Fx K mg) : FnK P w K mg base 4 (He.ga K (Str.ofString "scheme_text")) [] c_scheme_text := by
  obtain ⟨fd, F⟩ := Z.d_scheme_text
  exact (g_scheme_text Z F).k (bd_w F [.p 0] rfl rfl fun _ _ _ _ _ _ us ws hu hw => match us, ws, hu, hw with | [_], [], _, _ => rfl)
theorem ok_scheme_text_0_scheme {P : Program} {w : World} {K : PySem.W.Frag} {mg : Str → Option Value} {base : Heap} (Z : Fx K mg) : FnK P w K mg base 4 (He.ga K (Str.ofString "scheme_text")) [(Str.ofString "scheme")] c_scheme_text_0_scheme := by
  obtain ⟨fd, F⟩ := Z.d_scheme_text
  exact (g_scheme_text Z F).k (bd_w F [.k 0] rfl rfl fun _ _ _ _ _ _ us ws hu hw => match us, ws, hu, hw with | [], [_], _, _ => rfl)
theorem sc_Scheme_dlen : FnScope [(Str.ofString "self")] [(Str.ofString "self")] (defScope (inCls (top 20) 10)) := ⟨rfl, rfl, rfl, by decide +kernel, rfl, by decide +kernel, by decide +kernel⟩
theorem g_Scheme_dlen {P : Program} {w : World} {K : PySem.W.Frag} {mg : Str → Option Value} {base : Heap} (Z : Fx K mg) {fd : FuncData} (F : FunD K (Str.ofString "__len__") (Str.ofString "Scheme.__len__") (defArgs (inCls (top 20) 10)) (defBody (inCls (top 20) 10)) (defScope (inCls (top 20) 10)) [] [] (He.ma K (He.ga K (Str.ofString "Scheme")) (Str.ofString "__len__")) fd) : FnG P w K mg base 1 (He.ma K (He.ga K (Str.ofString "Scheme")) (Str.ofString "__len__")) fd [(Str.ofString "self")] m_Scheme_dlen :=
  fn_g (k := 0) F sc_Scheme_dlen (fun _ _ _ _ _ E C O => jss_one (js_ret (je_len Z.f5 (ja_cons (je_attr [(Str.ofString "Scheme")] Z.f39 (jr_var 0)) (ja_nil)))))
theorem ok_Scheme_dlen {P : Program} {w : World} {K : PySem.W.Frag} {mg : Str → Option Value} {base : Heap} (Z : Fx K mg) : FnK P w K mg base 1 (He.ma K (He.ga K (Str.ofString "Scheme")) (Str.ofString "__len__")) [] c_Scheme_dlen := by
  obtain ⟨fd, F⟩ := Z.d_Scheme_dlen
  exact (g_Scheme_dlen Z F).k (bd_w F [.p 0] rfl rfl fun _ _ _ _ _ _ us ws hu hw => match us, ws, hu, hw with | [_], [], _, _ => rfl)
theorem sc_Scheme_drepr : FnScope [(Str.ofString "self")] [(Str.ofString "self")] (defScope (inCls (top 20) 11)) := ⟨rfl, rfl, rfl, by decide +kernel, rfl, by decide +kernel, by decide +kernel⟩
theorem g_Scheme_drepr {P : Program} {w : World} {K : PySem.W.Frag} {mg : Str → Option Value} {base : Heap} (Z : Fx K mg) {fd : FuncData} (F : FunD K (Str.ofString "__repr__") (Str.ofString "Scheme.__repr__") (defArgs (inCls (top 20) 11)) (defBody (inCls (top 20) 11)) (defScope (inCls (top 20) 11)) [] [] (He.ma K (He.ga K (Str.ofString "Scheme")) (Str.ofString "__repr__")) fd) : FnG P w K mg base 1 (He.ma K (He.ga K (Str.ofString "Scheme")) (Str.ofString "__repr__")) fd [(Str.ofString "self")] m_Scheme_drepr :=
  fn_g (k := 0) F sc_Scheme_drepr (fun _ _ _ _ _ E C O => jss_one (js_ret (je_joined (.cons (je_str) (.cons (je_fmt (je_len Z.f5 (ja_cons (je_attr [(Str.ofString "Scheme")] Z.f38 (jr_var 0)) (ja_nil)))) (.cons (je_str) (.cons (je_fmt (je_len Z.f5 (ja_cons (je_attr [(Str.ofString "Scheme")] Z.f39 (jr_var 0)) (ja_nil)))) (.cons (je_str) (.nil)))))))))
theorem ok_Scheme_drepr {P : Program} {w : World} {K : PySem.W.Frag} {mg : Str → Option Value} {base : Heap} (Z : Fx K mg) : FnK P w K mg base 1 (He.ma K (He.ga K (Str.ofString "Scheme")) (Str.ofString "__repr__")) [] c_Scheme_drepr := by
  obtain ⟨fd, F⟩ := Z.d_Scheme_drepr
  exact (g_Scheme_drepr Z F).k (bd_w F [.p 0] rfl rfl fun _ _ _ _ _ _ us ws hu hw => match us, ws, hu, hw with | [_], [], _, _ => rfl)
theorem sc_Scheme_site_named : FnScope [(Str.ofString "self"), (Str.ofString "name"), (Str.ofString "row")] [(Str.ofString "self"), (Str.ofString "name")] (defScope (inCls (top 20) 8)) := ⟨rfl, rfl, rfl, by decide +kernel, rfl, by decide +kernel, by decide +kernel⟩
theorem g_Scheme_site_named {P : Program} {w : World} {K : PySem.W.Frag} {mg : Str → Option Value} {base : Heap} (Z : Fx K mg) {fd : FuncData} (F : FunD K (Str.ofString "site_named") (Str.ofString "Scheme.site_named") (defArgs (inCls (top 20) 8)) (defBody (inCls (top 20) 8)) (defScope (inCls (top 20) 8)) [] [] (He.ma K (He.ga K (Str.ofString "Scheme")) (Str.ofString "site_named")) fd) : FnG P w K mg base 1 (He.ma K (He.ga K (Str.ofString "Scheme")) (Str.ofString "site_named")) fd [(Str.ofString "self"), (Str.ofString "name")] m_Scheme_site_named :=
  fn_g (k := 0) F sc_Scheme_site_named (fun _ _ _ _ _ E C O => jss_cons (js_for C O (ji_it (je_attr [(Str.ofString "Scheme")] Z.f38 (jr_var 0))) (jg_name 2 C.nd) (jss_one (js_if (jt_eq C (je_ix (je_var 2) (je_int)) (je_var 1)) (jss_one (js_ret (je_var 2))) (jss_nil)))) (jss_one (js_never)))
theorem ok_Scheme_site_named {P : Program} {w : World} {K : PySem.W.Frag} {mg : Str → Option Value} {base : Heap} (Z : Fx K mg) : FnK P w K mg base 1 (He.ma K (He.ga K (Str.ofString "Scheme")) (Str.ofString "site_named")) [] c_Scheme_site_named := by
  obtain ⟨fd, F⟩ := Z.d_Scheme_site_named
  exact (g_Scheme_site_named Z F).k (bd_w F [.p 0, .p 1] rfl rfl fun _ _ _ _ _ _ us ws hu hw => match us, ws, hu, hw with | [_, _], [], _, _ => rfl)
theorem sc_law_scheme_so : FnScope [(Str.ofString "_law_made"), (Str.ofString "_law_spec_here"), (Str.ofString "_law_found"), (Str.ofString "_law_text7"), (Str.ofString "_law_row")] [(Str.ofString "_law_made"), (Str.ofString "_law_spec_here")] (defScope (top 42)) := ⟨rfl, rfl, rfl, by decide +kernel, rfl, by decide +kernel, by decide +kernel⟩
theorem g_law_scheme_so {P : Program} {w : World} {K : PySem.W.Frag} {mg : Str → Option Value} {base : Heap} (Z : Fx K mg) {fd : FuncData} (F : FunD K (Str.ofString "_law_scheme_so") (Str.ofString "_law_scheme_so") (defArgs (top 42)) (defBody (top 42)) (defScope (top 42)) [] [] (He.ga K (Str.ofString "_law_scheme_so")) fd) : FnG P w K mg base 3 (He.ga K (Str.ofString "_law_scheme_so")) fd [(Str.ofString "_law_made"), (Str.ofString "_law_spec_here")] m_law_scheme_so :=
  fn_g (k := 2) F sc_law_scheme_so (fun _ _ _ _ _ E C O => jss_cons (js_set C 2 (je_lst (ja_cons (je_meth0 (jr_var 0) Z.f18 Z.f51 Z.f50 (cal_fn C Z.f50.kp (ok_Scheme_sites Z) (by decide))) (ja_cons (je_meth0 (jr_var 0) Z.f18 Z.f51 Z.f53 (cal_fn C Z.f53.kp (ok_Scheme_names Z) (by decide))) (ja_cons (je_prop C Z.f18 Z.f51 Z.f52 (ok_Scheme_strangers Z) (by decide) (jr_var 0)) (ja_cons (je_lenO C Z.f18 Z.f58 (ok_Scheme_dlen Z) (by decide) (jr_var 0) Z.f5) (ja_cons (je_reprO C Z.f18 Z.f59 (ok_Scheme_drepr Z) (by decide) (jr_var 0) Z.f47) (ja_nil)))))))) (jss_cons (js_set C 3 (je_add (je_add (je_add (je_add (je_str) (je_strOf Z.f44 (ja_cons (je_len Z.f5 (ja_cons (je_ix (je_var 1) (je_int)) (ja_nil))) (ja_nil)))) (je_str)) (je_strOf Z.f44 (ja_cons (je_len Z.f5 (ja_cons (je_ix (je_var 1) (je_int)) (ja_nil))) (ja_nil)))) (je_str))) (jss_cons (js_if (jt_not (jt_val (je_call Z.f49 (cal_fn C Z.f48 (ok_law_same Z) (by decide)) (jl_cons (jr_var 2) (jl_cons (jr_dat (je_lst (ja_cons (je_ix (je_var 1) (je_int)) (ja_cons (je_ix (je_var 1) (je_int)) (ja_cons (je_ix (je_var 1) (je_int)) (ja_cons (je_len Z.f5 (ja_cons (je_ix (je_var 1) (je_int)) (ja_nil))) (ja_cons (je_var 3) (ja_nil)))))))) (jl_nil)))))) (jss_one (js_ret (je_bl))) (jss_nil)) (jss_one (js_ret (je_all C Z.f24 (ja_cons (je_lc C [((Str.ofString "_law_row"), 4)] (ji_it (je_ix (je_var 1) (je_int))) (fun _ _ _ _ _ => jg_name 4 (C.blk).nd) (fun _ _ _ _ _ => jts_nil) (fun _ _ _ _ _ => je_call Z.f49 (cal_fn (C.blk) Z.f48 (ok_law_same Z) (by decide)) (jl_cons (jr_dat (je_meth (jr_var 0) Z.f18 Z.f51 Z.f60 (cal_fn (C.blk) Z.f60.kp (ok_Scheme_site_named Z) (by decide)) (jl_cons (jr_dat (je_ix (je_var 4) (je_int))) (jl_nil)))) (jl_cons (jr_var 4) (jl_nil))))) (ja_nil))))))))
theorem ok_law_scheme_so {P : Program} {w : World} {K : PySem.W.Frag} {mg : Str → Option Value} {base : Heap} (Z : Fx K mg) : FnK P w K mg base 3 (He.ga K (Str.ofString "_law_scheme_so")) [] c_law_scheme_so := by
  obtain ⟨fd, F⟩ := Z.d_law_scheme_so
  exact (g_law_scheme_so Z F).k (bd_w F [.p 0, .p 1] rfl rfl fun _ _ _ _ _ _ us ws hu hw => match us, ws, hu, hw with | [_, _], [], _, _ => rfl)
theorem sc_is_number : FnScope [(Str.ofString "word"), (Str.ofString "sign")] [(Str.ofString "word")] (defScope (top 24)) := ⟨rfl, rfl, rfl, by decide +kernel, rfl, by decide +kernel, by decide +kernel⟩
theorem g_is_number {P : Program} {w : World} {K : PySem.W.Frag} {mg : Str → Option Value} {base : Heap} (Z : Fx K mg) {fd : FuncData} (F : FunD K (Str.ofString "is_number") (Str.ofString "is_number") (defArgs (top 24)) (defBody (top 24)) (defScope (top 24)) [] [] (He.ga K (Str.ofString "is_number")) fd) : FnG P w K mg base 1 (He.ga K (Str.ofString "is_number")) fd [(Str.ofString "word")] m_is_number :=
  fn_g (k := 0) F sc_is_number (fun _ _ _ _ _ E C O => jss_cons (js_if ((jw_or (jt_not (jt_lele (je_int) (je_len Z.f5 (ja_cons (je_var 0) (ja_nil))) (je_glob Z.f63))) (jw_or1 (jt_not (jt_val (je_all C Z.f24 (ja_cons (je_lc C [((Str.ofString "sign"), 1)] (ji_it (je_var 0)) (fun _ _ _ _ _ => jg_name 1 (C.blk).nd) (fun _ _ _ _ _ => jts_nil) (fun _ _ _ _ _ => je_in (C.blk) (je_var 1) (je_glob Z.f64))) (ja_nil))))))).jt) (jss_one (js_ret (je_bl))) (jss_nil)) (jss_one (js_ret (je_or (je_eq C (je_var 0) (je_str)) (je_one (je_ne C (je_ix (je_var 0) (je_int)) (je_str)))))))
theorem ok_is_number {P : Program} {w : World} {K : PySem.W.Frag} {mg : Str → Option Value} {base : Heap} (Z : Fx K mg) : FnK P w K mg base 1 (He.ga K (Str.ofString "is_number")) [] c_is_number := by
  obtain ⟨fd, F⟩ := Z.d_is_number
  exact (g_is_number Z F).k (bd_w F [.p 0] rfl rfl fun _ _ _ _ _ _ us ws hu hw => match us, ws, hu, hw with | [_], [], _, _ => rfl)
theorem sc_is_signed : FnScope [(Str.ofString "word")] [(Str.ofString "word")] (defScope (top 25)) := ⟨rfl, rfl, rfl, by decide +kernel, rfl, by decide +kernel, by decide +kernel⟩
theorem g_is_signed {P : Program} {w : World} {K : PySem.W.Frag} {mg : Str → Option Value} {base : Heap} (Z : Fx K mg) {fd : FuncData} (F : FunD K (Str.ofString "is_signed") (Str.ofString "is_signed") (defArgs (top 25)) (defBody (top 25)) (defScope (top 25)) [] [] (He.ga K (Str.ofString "is_signed")) fd) : FnG P w K mg base 2 (He.ga K (Str.ofString "is_signed")) fd [(Str.ofString "word")] m_is_signed :=
  fn_g (k := 1) F sc_is_signed (fun _ _ _ _ _ E C O => jss_one (js_ret (je_or (je_call Z.f66 (cal_fn C Z.f65 (ok_is_number Z) (by decide)) (jl_cons (jr_var 0) (jl_nil))) (je_one (je_and (je_eq C (je_slice (je_var 0) (jo_none) (jo_some (je_int))) (je_str)) (je_and (je_ne C (je_var 0) (je_str)) (je_one (je_call Z.f66 (cal_fn C Z.f65 (ok_is_number Z) (by decide)) (jl_cons (jr_dat (je_slice (je_var 0) (jo_some (je_int)) (jo_none))) (jl_nil))))))))))
theorem ok_is_signed {P : Program} {w : World} {K : PySem.W.Frag} {mg : Str → Option Value} {base : Heap} (Z : Fx K mg) : FnK P w K mg base 2 (He.ga K (Str.ofString "is_signed")) [] c_is_signed := by
  obtain ⟨fd, F⟩ := Z.d_is_signed
  exact (g_is_signed Z F).k (bd_w F [.p 0] rfl rfl fun _ _ _ _ _ _ us ws hu hw => match us, ws, hu, hw with | [_], [], _, _ => rfl)
theorem sc_site_in : FnScope [(Str.ofString "words"), (Str.ofString "word")] [(Str.ofString "words")] (defScope (top 28)) := ⟨rfl, rfl, rfl, by decide +kernel, rfl, by decide +kernel, by decide +kernel⟩
theorem g_site_in {P : Program} {w : World} {K : PySem.W.Frag} {mg : Str → Option Value} {base : Heap} (Z : Fx K mg) {fd : FuncData} (F : FunD K (Str.ofString "site_in") (Str.ofString "site_in") (defArgs (top 28)) (defBody (top 28)) (defScope (top 28)) [] [] (He.ga K (Str.ofString "site_in")) fd) : FnG P w K mg base 3 (He.ga K (Str.ofString "site_in")) fd [(Str.ofString "words")] m_site_in :=
  fn_g (k := 2) F sc_site_in (fun _ _ _ _ _ E C O => jss_cons (js_if ((jw_or (jt_ne C (je_len Z.f5 (ja_cons (je_var 0) (ja_nil))) (je_int)) (jw_or (jt_ne C (je_ix (je_var 0) (je_int)) (je_str)) (jw_or (jt_not (jt_val (je_call Z.f26 (cal_fn C Z.f25 (ok_is_name Z) (by decide)) (jl_cons (jr_dat (je_ix (je_var 0) (je_int))) (jl_nil))))) (jw_or1 (jt_not (jt_val (je_call Z.f68 (cal_fn C Z.f67 (ok_is_signed Z) (by decide)) (jl_cons (jr_dat (je_ix (je_var 0) (je_int))) (jl_nil))))))))).jt) (jss_one (js_ret (je_non))) (jss_nil)) (jss_cons (js_if (jt_not (jt_val (je_all C Z.f24 (ja_cons (je_lc C [((Str.ofString "word"), 1)] (ji_it (je_slice (je_var 0) (jo_some (je_int)) (jo_none))) (fun _ _ _ _ _ => jg_name 1 (C.blk).nd) (fun _ _ _ _ _ => jts_nil) (fun _ _ _ _ _ => je_call Z.f66 (cal_fn (C.blk) Z.f65 (ok_is_number Z) (by decide)) (jl_cons (jr_var 1) (jl_nil)))) (ja_nil))))) (jss_one (js_ret (je_non))) (jss_nil)) (jss_one (js_ret (je_tup (ja_cons (je_ix (je_var 0) (je_int)) (ja_star (je_lc C [((Str.ofString "word"), 1)] (ji_it (je_slice (je_var 0) (jo_some (je_int)) (jo_none))) (fun _ _ _ _ _ => jg_name 1 (C.blk).nd) (fun _ _ _ _ _ => jts_nil) (fun _ _ _ _ _ => je_intOf Z.f0 (ja_cons (je_var 1) (ja_nil)))) (ja_nil))))))))
theorem ok_site_in {P : Program} {w : World} {K : PySem.W.Frag} {mg : Str → Option Value} {base : Heap} (Z : Fx K mg) : FnK P w K mg base 3 (He.ga K (Str.ofString "site_in")) [] c_site_in := by
  obtain ⟨fd, F⟩ := Z.d_site_in
  exact (g_site_in Z F).k (bd_w F [.p 0] rfl rfl fun _ _ _ _ _ _ us ws hu hw => match us, ws, hu, hw with | [_], [], _, _ => rfl)
theorem sc_strangers_in : FnScope [(Str.ofString "words")] [(Str.ofString "words")] (defScope (top 29)) := ⟨rfl, rfl, rfl, by decide +kernel, rfl, by decide +kernel, by decide +kernel⟩
theorem g_strangers_in {P : Program} {w : World} {K : PySem.W.Frag} {mg : Str → Option Value} {base : Heap} (Z : Fx K mg) {fd : FuncData} (F : FunD K (Str.ofString "strangers_in") (Str.ofString "strangers_in") (defArgs (top 29)) (defBody (top 29)) (defScope (top 29)) [] [] (He.ga K (Str.ofString "strangers_in")) fd) : FnG P w K mg base 2 (He.ga K (Str.ofString "strangers_in")) fd [(Str.ofString "words")] m_strangers_in :=
  fn_g (k := 1) F sc_strangers_in (fun _ _ _ _ _ E C O => jss_cons (js_if ((jw_or (jt_ne C (je_len Z.f5 (ja_cons (je_var 0) (ja_nil))) (je_int)) (jw_or1 (jt_ne C (je_ix (je_var 0) (je_int)) (je_str)))).jt) (jss_one (js_ret (je_non))) (jss_nil)) (jss_cons (js_if (jt_eq C (je_ix (je_var 0) (je_int)) (je_str)) (jss_one (js_ret (je_lst (ja_cons (je_non) (ja_nil))))) (jss_nil)) (jss_one (js_ret (je_if (jt_val (je_call Z.f66 (cal_fn C Z.f65 (ok_is_number Z) (by decide)) (jl_cons (jr_dat (je_ix (je_var 0) (je_int))) (jl_nil)))) (je_lst (ja_cons (je_intOf Z.f0 (ja_cons (je_ix (je_var 0) (je_int)) (ja_nil))) (ja_nil))) (je_non))))))
theorem ok_strangers_in {P : Program} {w : World} {K : PySem.W.Frag} {mg : Str → Option Value} {base : Heap} (Z : Fx K mg) : FnK P w K mg base 2 (He.ga K (Str.ofString "strangers_in")) [] c_strangers_in := by
  obtain ⟨fd, F⟩ := Z.d_strangers_in
  exact (g_strangers_in Z F).k (bd_w F [.p 0] rfl rfl fun _ _ _ _ _ _ us ws hu hw => match us, ws, hu, hw with | [_], [], _, _ => rfl)
theorem sc_scheme_parts : FnScope [(Str.ofString "lines"), (Str.ofString "sites"), (Str.ofString "at"), (Str.ofString "site"), (Str.ofString "head"), (Str.ofString "names"), (Str.ofString "many"), (Str.ofString "word")] [(Str.ofString "lines")] (defScope (top 30)) := ⟨rfl, rfl, rfl, by decide +kernel, rfl, by decide +kernel, by decide +kernel⟩
theorem g_scheme_parts {P : Program} {w : World} {K : PySem.W.Frag} {mg : Str → Option Value} {base : Heap} (Z : Fx K mg) {fd : FuncData} (F : FunD K (Str.ofString "scheme_parts") (Str.ofString "scheme_parts") (defArgs (top 30)) (defBody (top 30)) (defScope (top 30)) [] [] (He.ga K (Str.ofString "scheme_parts")) fd) : FnG P w K mg base 4 (He.ga K (Str.ofString "scheme_parts")) fd [(Str.ofString "lines")] m_scheme_parts :=
  fn_g (k := 3) F sc_scheme_parts (fun _ _ _ _ _ E C O => jss_cons (js_par C 1 2 (jx_new (jn_lst (ja_nil)) (jx_dat (je_int) (jx_nil)))) (jss_cons (js_while O 16 ((jw_and (jt_lt (je_var 2) (je_len Z.f5 (ja_cons (je_var 0) (ja_nil)))) (jw_and1 (jt_ne C (je_ix (je_split (je_ix (je_var 0) (je_var 2)) (je_str)) (je_int)) (je_str)))).jt) (jss_cons (js_set C 3 (je_call Z.f70 (cal_fn C Z.f69 (ok_site_in Z) (by decide)) (jl_cons (jr_dat (je_split (je_ix (je_var 0) (je_var 2)) (je_str))) (jl_nil)))) (jss_cons (js_if (jt_is (je_var 3) (je_non)) (jss_one (js_never)) (jss_nil)) (jss_cons (js_append 1 (ja_cons (je_var 3) (ja_nil))) (jss_one (js_augAdd C 2 (je_int))))))) (jss_cons (js_if (jt_ge (je_var 2) (je_len Z.f5 (ja_cons (je_var 0) (ja_nil)))) (jss_one (js_never)) (jss_nil)) (jss_cons (js_star C 4 5 (je_split (je_ix (je_var 0) (je_var 2)) (je_str))) (jss_cons (js_if (jt_not (jt_val (je_all C Z.f24 (ja_cons (je_lc C [((Str.ofString "word"), 7)] (ji_it (je_var 5)) (fun _ _ _ _ _ => jg_name 7 (C.blk).nd) (fun _ _ _ _ _ => jts_nil) (fun _ _ _ _ _ => je_call Z.f26 (cal_fn (C.blk) Z.f25 (ok_is_name Z) (by decide)) (jl_cons (jr_var 7) (jl_nil)))) (ja_nil))))) (jss_one (js_never)) (jss_nil)) (jss_cons (js_set C 6 (je_if (jt_lt (je_add (je_var 2) (je_int)) (je_len Z.f5 (ja_cons (je_var 0) (ja_nil)))) (je_call Z.f72 (cal_fn C Z.f71 (ok_strangers_in Z) (by decide)) (jl_cons (jr_dat (je_split (je_ix (je_var 0) (je_add (je_var 2) (je_int))) (je_str))) (jl_nil))) (je_non))) (jss_cons (js_if (jt_is (je_var 6) (je_non)) (jss_one (js_never)) (jss_nil)) (jss_frz 1 (jss_one (js_ret (je_tup (ja_cons (je_var 1) (ja_cons (je_var 5) (ja_cons (je_ix (je_var 6) (je_int)) (ja_cons (je_add (je_var 2) (je_int)) (ja_nil))))))))))))))))
theorem ok_scheme_parts {P : Program} {w : World} {K : PySem.W.Frag} {mg : Str → Option Value} {base : Heap} (Z : Fx K mg) : FnK P w K mg base 4 (He.ga K (Str.ofString "scheme_parts")) [] c_scheme_parts := by
  obtain ⟨fd, F⟩ := Z.d_scheme_parts
  exact (g_scheme_parts Z F).k (bd_w F [.p 0] rfl rfl fun _ _ _ _ _ _ us ws hu hw => match us, ws, hu, hw with | [_], [], _, _ => rfl)
theorem sc_read_scheme : FnScope [(Str.ofString "text"), (Str.ofString "lines"), (Str.ofString "sites"), (Str.ofString "names"), (Str.ofString "many"), (Str.ofString "end")] [(Str.ofString "text")] (defScope (top 31)) := ⟨rfl, rfl, rfl, by decide +kernel, rfl, by decide +kernel, by decide +kernel⟩
theorem g_read_scheme {P : Program} {w : World} {K : PySem.W.Frag} {mg : Str → Option Value} {base : Heap} (Z : Fx K mg) {fd : FuncData} (F : FunD K (Str.ofString "read_scheme") (Str.ofString "read_scheme") (defArgs (top 31)) (defBody (top 31)) (defScope (top 31)) [] [] (He.ga K (Str.ofString "read_scheme")) fd) : FnG P w K mg base 5 (He.ga K (Str.ofString "read_scheme")) fd [(Str.ofString "text")] m_read_scheme :=
  fn_g (k := 4) F sc_read_scheme (fun _ _ _ _ _ E C O => jss_cons (js_set C 1 (je_split (je_var 0) (je_str))) (jss_cons (js_tgt (je_call Z.f74 (cal_fn C Z.f73 (ok_scheme_parts Z) (by decide)) (jl_cons (jr_var 1) (jl_nil))) (jg_tup C.calm (jgs_cons (jg_name 2 C.nd) (jgs_cons (jg_name 3 C.nd) (jgs_cons (jg_name 4 C.nd) (jgs_cons (jg_name 5 C.nd) (jgs_nil))))))) (jss_cons (js_if (jt_lt (je_var 5) (je_len Z.f5 (ja_cons (je_var 1) (ja_nil)))) (jss_one (js_never)) (jss_nil)) (jss_one (js_ret (je_callK Z.f18 (cal_mk C Z.f41 Z.f18 (ok_Scheme_dinit_3_strangers Z) (by decide)) (jl_cons (jr_var 2) (jl_cons (jr_var 3) (jl_nil))) (jk_cons (jr_var 4) (jk_nil))))))))
theorem ok_read_scheme {P : Program} {w : World} {K : PySem.W.Frag} {mg : Str → Option Value} {base : Heap} (Z : Fx K mg) : FnK P w K mg base 5 (He.ga K (Str.ofString "read_scheme")) [] c_read_scheme := by
  obtain ⟨fd, F⟩ := Z.d_read_scheme
  exact (g_read_scheme Z F).k (bd_w F [.p 0] rfl rfl fun _ _ _ _ _ _ us ws hu hw => match us, ws, hu, hw with | [_], [], _, _ => rfl)
theorem ok_read_scheme_0_text {P : Program} {w : World} {K : PySem.W.Frag} {mg : Str → Option Value} {base : Heap} (Z : Fx K mg) : FnK P w K mg base 5 (He.ga K (Str.ofString "read_scheme")) [(Str.ofString "text")] c_read_scheme_0_text := by
  obtain ⟨fd, F⟩ := Z.d_read_scheme
  exact (g_read_scheme Z F).k (bd_w F [.k 0] rfl rfl fun _ _ _ _ _ _ us ws hu hw => match us, ws, hu, hw with | [], [_], _, _ => rfl)
theorem sc_Scheme_deq : FnScope [(Str.ofString "self"), (Str.ofString "other")] [(Str.ofString "self"), (Str.ofString "other")] (defScope (inCls (top 20) 9)) := ⟨rfl, rfl, rfl, by decide +kernel, rfl, by decide +kernel, by decide +kernel⟩
theorem g_Scheme_deq {P : Program} {w : World} {K : PySem.W.Frag} {mg : Str → Option Value} {base : Heap} (Z : Fx K mg) {fd : FuncData} (F : FunD K (Str.ofString "__eq__") (Str.ofString "Scheme.__eq__") (defArgs (inCls (top 20) 9)) (defBody (inCls (top 20) 9)) (defScope (inCls (top 20) 9)) [] [] (He.ma K (He.ga K (Str.ofString "Scheme")) (Str.ofString "__eq__")) fd) : FnG P w K mg base 1 (He.ma K (He.ga K (Str.ofString "Scheme")) (Str.ofString "__eq__")) fd [(Str.ofString "self"), (Str.ofString "other")] m_Scheme_deq :=
  fn_g (k := 0) F sc_Scheme_deq (fun _ _ _ _ _ E C O => jss_one (js_ret (je_and (je_isi Z.isi Z.f77 (ja_cons (je_var 1) (ja_cons (je_glob (gd_cls Z.f18)) (ja_nil)))) (je_and (je_eq C (je_attr [(Str.ofString "Scheme")] Z.f38 (jr_var 0)) (je_attr [(Str.ofString "Scheme")] Z.f38 (jr_var 1))) (je_and (je_eq C (je_attr [(Str.ofString "Scheme")] Z.f39 (jr_var 0)) (je_attr [(Str.ofString "Scheme")] Z.f39 (jr_var 1))) (je_one (je_eq C (je_attr [(Str.ofString "Scheme")] Z.f40 (jr_var 0)) (je_attr [(Str.ofString "Scheme")] Z.f40 (jr_var 1)))))))))
theorem ok_Scheme_deq {P : Program} {w : World} {K : PySem.W.Frag} {mg : Str → Option Value} {base : Heap} (Z : Fx K mg) : FnK P w K mg base 1 (He.ma K (He.ga K (Str.ofString "Scheme")) (Str.ofString "__eq__")) [] c_Scheme_deq := by
  obtain ⟨fd, F⟩ := Z.d_Scheme_deq
  exact (g_Scheme_deq Z F).k (bd_w F [.p 0, .p 1] rfl rfl fun _ _ _ _ _ _ us ws hu hw => match us, ws, hu, hw with | [_, _], [], _, _ => rfl)
theorem sc_law_mixed : FnScope [(Str.ofString "_law_rng"), (Str.ofString "_law_things"), (Str.ofString "_law_found"), (Str.ofString "_law_thing")] [(Str.ofString "_law_rng"), (Str.ofString "_law_things")] (defScope (top 36)) := ⟨rfl, rfl, rfl, by decide +kernel, rfl, by decide +kernel, by decide +kernel⟩
theorem g_law_mixed {P : Program} {w : World} {K : PySem.W.Frag} {mg : Str → Option Value} {base : Heap} (Z : Fx K mg) {fd : FuncData} (F : FunD K (Str.ofString "_law_mixed") (Str.ofString "_law_mixed") (defArgs (top 36)) (defBody (top 36)) (defScope (top 36)) [] [] (He.ga K (Str.ofString "_law_mixed")) fd) : FnG P w K mg base 2 (He.ga K (Str.ofString "_law_mixed")) fd [(Str.ofString "_law_rng"), (Str.ofString "_law_things")] m_law_mixed :=
  fn_g (k := 1) F sc_law_mixed (fun _ _ _ _ _ E C O => jss_cons (js_new C 2 (jn_lst (ja_nil))) (jss_cons (js_for C O (ji_it (je_var 1)) (jg_name 3 C.nd) (jss_one (js_insert 2 (ja_cons (je_call Z.f7 (cal_fn C Z.f6 (ok_law_draw Z) (by decide)) (jl_cons (jr_var 0) (jl_cons (jr_dat (je_add (je_ownLen 2 Z.f5) (je_int))) (jl_nil)))) (ja_cons (je_var 3) (ja_nil)))))) (jss_frz 2 (jss_one (js_ret (je_var 2))))))
theorem ok_law_mixed {P : Program} {w : World} {K : PySem.W.Frag} {mg : Str → Option Value} {base : Heap} (Z : Fx K mg) : FnK P w K mg base 2 (He.ga K (Str.ofString "_law_mixed")) [] c_law_mixed := by
  obtain ⟨fd, F⟩ := Z.d_law_mixed
  exact (g_law_mixed Z F).k (bd_w F [.p 0, .p 1] rfl rfl fun _ _ _ _ _ _ us ws hu hw => match us, ws, hu, hw with | [_, _], [], _, _ => rfl)
theorem sc_Scheme_plain : FnScope [(Str.ofString "cls"), (Str.ofString "items")] [(Str.ofString "cls"), (Str.ofString "items")] (defScope (inCls (top 20) 3)) := ⟨rfl, rfl, rfl, by decide +kernel, rfl, by decide +kernel, by decide +kernel⟩
theorem ok_Scheme_plain {P : Program} {w : World} {K : PySem.W.Frag} {mg : Str → Option Value} {base : Heap} (Z : Fx K mg) : FnK P w K mg base 5 (He5.wf K (He.ga K (Str.ofString "Scheme")) "classmethod" (Str.ofString "plain")) [] c_Scheme_plain := by
  obtain ⟨fd, F⟩ := Z.d_Scheme_plain
  exact fn_gs (k := 4) F sc_Scheme_plain (fun kV doc pm an cdv ct => StX.bind_star1 (B := fun l => bindArgs (PySem.W.fnOf _ _ _ _ _ .none kV doc pm an cdv ct) ⟨l, []⟩) (fun _ => rfl) (fun _ _ _ => rfl)) (fun _ _ _ _ _ E C O => jss_one (js_ret (je_callV 0 Z.f18 (cal_mk C Z.f41 Z.f18 (ok_Scheme_dinit_3 Z) (by decide)) (jl_cons (jr_dat (je_lst (ja_cons (je_tup (ja_cons (je_str) (ja_cons (je_int) (ja_cons (je_int) (ja_cons (je_int) (ja_cons (je_int) (ja_cons (je_int) (ja_nil)))))))) (ja_nil)))) (jl_cons (jr_var 1) (jl_nil))))))
theorem sc_law : FnScope [(Str.ofString "_law_script"), (Str.ofString "_law_rng"), (Str.ofString "_law_turn"), (Str.ofString "_law_spec_here"), (Str.ofString "_law_made"), (Str.ofString "_law_text7"), (Str.ofString "_law_loose")] [(Str.ofString "_law_script")] (defScope (top 44)) := ⟨rfl, rfl, rfl, by decide +kernel, rfl, by decide +kernel, by decide +kernel⟩
theorem g_law {P : Program} {w : World} {K : PySem.W.Frag} {mg : Str → Option Value} {base : Heap} (Z : Fx K mg) {fd : FuncData} (F : FunD K (Str.ofString "law") (Str.ofString "law") (defArgs (top 44)) (defBody (top 44)) (defScope (top 44)) [] [] (He.ga K (Str.ofString "law")) fd) : FnG P w K mg base 6 (He.ga K (Str.ofString "law")) fd [(Str.ofString "_law_script")] m_law :=
  fn_g (k := 5) F sc_law (fun _ _ _ _ _ E C O => jss_cons (js_new C 1 (jn_callE C (ok_law_source Z) (by decide) Z.f2 Z.f3 (ja_cons (je_var 0) (ja_nil)))) (jss_cons (js_for C O (ji_range1 Z.f4 (ja_cons (je_int) (ja_nil))) (jg_name 2 C.nd) (jss_cons (js_set C 3 (je_call Z.f17 (cal_fn C Z.f16 (ok_law_spec Z) (by decide)) (jl_cons (jr_var 1) (jl_cons (jr_dat (je_int)) (jl_cons (jr_dat (je_int)) (jl_cons (jr_dat (je_lst (ja_cons (je_int) (ja_cons (je_int) (ja_cons (je_pow (je_int) (je_int)) (ja_cons (je_non) (ja_nil))))))) (jl_nil))))))) (jss_cons (js_par C 4 5 (jx_dat (je_call Z.f43 (cal_fn C Z.f42 (ok_law_scheme Z) (by decide)) (jl_cons (jr_var 3) (jl_nil))) (jx_dat (je_join (je_str) (je_call Z.f46 (cal_fn C Z.f45 (ok_law_scheme_lines Z) (by decide)) (jl_cons (jr_var 3) (jl_nil)))) (jx_nil)))) (jss_cons (js_if (jt_not (jt_val (je_call Z.f49 (cal_fn C Z.f48 (ok_law_same Z) (by decide)) (jl_cons (jr_dat (je_lst (ja_cons (je_call Z.f57 (cal_fn C Z.f56 (ok_scheme_text Z) (by decide)) (jl_cons (jr_var 4) (jl_nil))) (ja_cons (je_callK0 Z.f57 (cal_fn C Z.f56 (ok_scheme_text_0_scheme Z) (by decide)) (jk_cons (jr_var 4) (jk_nil))) (ja_nil))))) (jl_cons (jr_dat (je_lst (ja_cons (je_var 5) (ja_cons (je_var 5) (ja_nil))))) (jl_nil)))))) (jss_one (js_ret (je_bl))) (jss_nil)) (jss_cons (js_if ((jw_or (jt_not (jt_val (je_call Z.f62 (cal_fn C Z.f61 (ok_law_scheme_so Z) (by decide)) (jl_cons (jr_dat (je_call Z.f76 (cal_fn C Z.f75 (ok_read_scheme Z) (by decide)) (jl_cons (jr_var 5) (jl_nil)))) (jl_cons (jr_var 3) (jl_nil)))))) (jw_or1 (jt_neO C Z.f18 Z.f78 Z.f79 Z.f80 (ok_Scheme_deq Z) (by decide) (je_callK0 Z.f76 (cal_fn C Z.f75 (ok_read_scheme_0_text Z) (by decide)) (jk_cons (jr_var 5) (jk_nil))) (je_var 4)))).jt) (jss_one (js_ret (je_bl))) (jss_nil)) (jss_cons (js_set C 6 (je_join (je_str) (je_call Z.f46 (cal_fn C Z.f45 (ok_law_scheme_lines Z) (by decide)) (jl_cons (jr_dat (je_tup (ja_cons (je_ix (je_var 3) (je_int)) (ja_cons (je_call Z.f82 (cal_fn C Z.f81 (ok_law_mixed Z) (by decide)) (jl_cons (jr_var 1) (jl_cons (jr_dat (je_ix (je_var 3) (je_int))) (jl_nil)))) (ja_cons (je_ix (je_var 3) (je_int)) (ja_nil)))))) (jl_nil))))) (jss_one (js_if ((jw_or (jt_neO C Z.f18 Z.f78 Z.f79 Z.f80 (ok_Scheme_deq Z) (by decide) (je_call Z.f76 (cal_fn C Z.f75 (ok_read_scheme Z) (by decide)) (jl_cons (jr_var 6) (jl_nil))) (je_var 4)) (jw_or1 (jt_ne C (je_call Z.f57 (cal_fn C Z.f56 (ok_scheme_text Z) (by decide)) (jl_cons (jr_dat (je_call Z.f76 (cal_fn C Z.f75 (ok_read_scheme Z) (by decide)) (jl_cons (jr_var 6) (jl_nil)))) (jl_nil))) (je_var 5)))).jt) (jss_one (js_ret (je_bl))) (jss_nil))))))))) (jss_one (js_ret (je_eq C (je_call Z.f57 (cal_fn C Z.f56 (ok_scheme_text Z) (by decide)) (jl_cons (jr_dat (je_cmeth C Z.f18 Z.f19 Z.f83 (ok_Scheme_plain Z) (by decide) (jl_cons (jr_dat (je_str)) (jl_cons (jr_dat (je_str)) (jl_nil))))) (jl_nil))) (je_str))))))
end K57
end DL

set_option maxHeartbeats 0
namespace DL
open PySem PySem.Spec PyProof.Rows L2 ClX
namespace K57
def fa0 : List FaX := [xFree (Str.ofString "int"), xFree (Str.ofString "list"), xGlo (Str.ofString "_law_source"), (fun K => (He.Fa.keep (Str.ofString "_law_source")).ok K), xFree (Str.ofString "range"), xFree (Str.ofString "len"), (fun K => (He.Fa.keep (Str.ofString "_law_draw")).ok K), xGlo (Str.ofString "_law_draw"), (fun K => (He.Fa.keep (Str.ofString "_law_pick")).ok K), xGlo (Str.ofString "_law_pick"), (fun K => (He.Fa.keep (Str.ofString "_law_names")).ok K), xGlo (Str.ofString "_law_names"), xFree (Str.ofString "min"), (fun K => (He.Fa.keep (Str.ofString "_law_site")).ok K), xGlo (Str.ofString "_law_site"), xFree (Str.ofString "sorted"), (fun K => (He.Fa.keep (Str.ofString "_law_spec")).ok K), xGlo (Str.ofString "_law_spec"), xGlo (Str.ofString "Scheme"), xReads (Str.ofString "Scheme"), xCInt (Str.ofString "Scheme") (Str.ofString "MOST_SITES") 4, xFree (Str.ofString "enumerate"), xInt (Str.ofString "MOST_SIGNS") 8, xStr (Str.ofString "LETTERS") (Str.ofString "abcdefghijklmnopqrstuvwxyz"), xFree (Str.ofString "all"), (fun K => (He.Fa.keep (Str.ofString "is_name")).ok K), xGlo (Str.ofString "is_name"), xInt (Str.ofString "MOST_WEIGHT") 1000, xInt (Str.ofString "MOST_AMOUNT") 1000000000000, (fun K => (He.Fa.keep (Str.ofString "is_amount")).ok K)]
def fa1 : List FaX := [xGlo (Str.ofString "is_amount"), (fun K => (He.Fa.keep (Str.ofString "is_site")).ok K), xGlo (Str.ofString "is_site"), xCInt (Str.ofString "Scheme") (Str.ofString "MOST_ITEMS") 10, (fun K => (He.Fa.keep (Str.ofString "repeated")).ok K), xGlo (Str.ofString "repeated"), xInt (Str.ofString "MOST_STRANGERS") 1000000000, xFree (Str.ofString "tuple"), xCls (Str.ofString "Scheme"), xNoat (Str.ofString "Scheme") (Str.ofString "parts"), xNoat (Str.ofString "Scheme") (Str.ofString "words"), xNoat (Str.ofString "Scheme") (Str.ofString "guests"), xMkr (Str.ofString "Scheme"), (fun K => (He.Fa.keep (Str.ofString "_law_scheme")).ok K), xGlo (Str.ofString "_law_scheme"), xFree (Str.ofString "str"), (fun K => (He.Fa.keep (Str.ofString "_law_scheme_lines")).ok K), xGlo (Str.ofString "_law_scheme_lines"), xFree (Str.ofString "repr"), (fun K => (He.Fa.keep (Str.ofString "_law_same")).ok K), xGlo (Str.ofString "_law_same"), xMeth (Str.ofString "Scheme") (Str.ofString "sites"), xProp (Str.ofString "Scheme") (Str.ofString "strangers"), xMeth (Str.ofString "Scheme") (Str.ofString "names"), (fun K => (He.Fa.keep (Str.ofString "scheme_lines")).ok K), xGlo (Str.ofString "scheme_lines"), (fun K => (He.Fa.keep (Str.ofString "scheme_text")).ok K), xGlo (Str.ofString "scheme_text"), xMet (Str.ofString "Scheme") (Str.ofString "__len__"), xMet (Str.ofString "Scheme") (Str.ofString "__repr__")]
def fa2 : List FaX := [xMeth (Str.ofString "Scheme") (Str.ofString "site_named"), (fun K => (He.Fa.keep (Str.ofString "_law_scheme_so")).ok K), xGlo (Str.ofString "_law_scheme_so"), xInt (Str.ofString "MOST_FIGURES") 13, xStr (Str.ofString "FIGURES") (Str.ofString "0123456789"), (fun K => (He.Fa.keep (Str.ofString "is_number")).ok K), xGlo (Str.ofString "is_number"), (fun K => (He.Fa.keep (Str.ofString "is_signed")).ok K), xGlo (Str.ofString "is_signed"), (fun K => (He.Fa.keep (Str.ofString "site_in")).ok K), xGlo (Str.ofString "site_in"), (fun K => (He.Fa.keep (Str.ofString "strangers_in")).ok K), xGlo (Str.ofString "strangers_in"), (fun K => (He.Fa.keep (Str.ofString "scheme_parts")).ok K), xGlo (Str.ofString "scheme_parts"), (fun K => (He.Fa.keep (Str.ofString "read_scheme")).ok K), xGlo (Str.ofString "read_scheme"), xFree (Str.ofString "isinstance"), xMet (Str.ofString "Scheme") (Str.ofString "__eq__"), xObj (Str.ofString "Scheme"), xNe (Str.ofString "Scheme"), (fun K => (He.Fa.keep (Str.ofString "_law_mixed")).ok K), xGlo (Str.ofString "_law_mixed"), xCm (Str.ofString "Scheme") (Str.ofString "plain"), xIsi (Str.ofString "Scheme") (Str.ofString "Scheme") true, xGlo (Str.ofString "law")]
def fa : List FaX := fa0 ++ fa1 ++ fa2
def fn0 : List He5.DefA := [{ at_ := fun K => He.ga K (Str.ofString "_law_source"), name := (Str.ofString "_law_source"), qual := (Str.ofString "_law_source"), params := defArgs (top 33), body := defBody (top 33), scope := defScope (top 33), kwd := [] },
  { at_ := fun K => He.ga K (Str.ofString "_law_draw"), name := (Str.ofString "_law_draw"), qual := (Str.ofString "_law_draw"), params := defArgs (top 34), body := defBody (top 34), scope := defScope (top 34), kwd := [] },
  { at_ := fun K => He.ga K (Str.ofString "_law_pick"), name := (Str.ofString "_law_pick"), qual := (Str.ofString "_law_pick"), params := defArgs (top 35), body := defBody (top 35), scope := defScope (top 35), kwd := [] },
  { at_ := fun K => He.ga K (Str.ofString "_law_names"), name := (Str.ofString "_law_names"), qual := (Str.ofString "_law_names"), params := defArgs (top 38), body := defBody (top 38), scope := defScope (top 38), kwd := [] },
  { at_ := fun K => He.ga K (Str.ofString "_law_site"), name := (Str.ofString "_law_site"), qual := (Str.ofString "_law_site"), params := defArgs (top 39), body := defBody (top 39), scope := defScope (top 39), kwd := [] },
  { at_ := fun K => He.ga K (Str.ofString "_law_spec"), name := (Str.ofString "_law_spec"), qual := (Str.ofString "_law_spec"), params := defArgs (top 40), body := defBody (top 40), scope := defScope (top 40), kwd := [] },
  { at_ := fun K => He.ga K (Str.ofString "is_name"), name := (Str.ofString "is_name"), qual := (Str.ofString "is_name"), params := defArgs (top 16), body := defBody (top 16), scope := defScope (top 16), kwd := [] },
  { at_ := fun K => He.ga K (Str.ofString "is_amount"), name := (Str.ofString "is_amount"), qual := (Str.ofString "is_amount"), params := defArgs (top 17), body := defBody (top 17), scope := defScope (top 17), kwd := [] },
  { at_ := fun K => He.ga K (Str.ofString "is_site"), name := (Str.ofString "is_site"), qual := (Str.ofString "is_site"), params := defArgs (top 18), body := defBody (top 18), scope := defScope (top 18), kwd := [] },
  { at_ := fun K => He.ga K (Str.ofString "repeated"), name := (Str.ofString "repeated"), qual := (Str.ofString "repeated"), params := defArgs (top 19), body := defBody (top 19), scope := defScope (top 19), kwd := [] },
  { at_ := fun K => He.ma K (He.ga K (Str.ofString "Scheme")) (Str.ofString "__init__"), name := (Str.ofString "__init__"), qual := (Str.ofString "Scheme.__init__"), params := defArgs (inCls (top 20) 2), body := defBody (inCls (top 20) 2), scope := defScope (inCls (top 20) 2), kwd := [((Str.ofString "strangers"), .int 0)] },
  { at_ := fun K => He.ga K (Str.ofString "_law_scheme"), name := (Str.ofString "_law_scheme"), qual := (Str.ofString "_law_scheme"), params := defArgs (top 41), body := defBody (top 41), scope := defScope (top 41), kwd := [] },
  { at_ := fun K => He.ga K (Str.ofString "_law_scheme_lines"), name := (Str.ofString "_law_scheme_lines"), qual := (Str.ofString "_law_scheme_lines"), params := defArgs (top 43), body := defBody (top 43), scope := defScope (top 43), kwd := [] },
  { at_ := fun K => He.ga K (Str.ofString "_law_same"), name := (Str.ofString "_law_same"), qual := (Str.ofString "_law_same"), params := defArgs (top 37), body := defBody (top 37), scope := defScope (top 37), kwd := [] },
  { at_ := fun K => He.ma K (He.ga K (Str.ofString "Scheme")) (Str.ofString "sites"), name := (Str.ofString "sites"), qual := (Str.ofString "Scheme.sites"), params := defArgs (inCls (top 20) 5), body := defBody (inCls (top 20) 5), scope := defScope (inCls (top 20) 5), kwd := [] },
  { at_ := fun K => propG (Str.ofString "Scheme") (Str.ofString "strangers") K, name := (Str.ofString "strangers"), qual := (Str.ofString "Scheme.strangers"), params := defArgs (inCls (top 20) 4), body := defBody (inCls (top 20) 4), scope := defScope (inCls (top 20) 4), kwd := [] },
  { at_ := fun K => He.ma K (He.ga K (Str.ofString "Scheme")) (Str.ofString "names"), name := (Str.ofString "names"), qual := (Str.ofString "Scheme.names"), params := defArgs (inCls (top 20) 6), body := defBody (inCls (top 20) 6), scope := defScope (inCls (top 20) 6), kwd := [] },
  { at_ := fun K => He.ga K (Str.ofString "scheme_lines"), name := (Str.ofString "scheme_lines"), qual := (Str.ofString "scheme_lines"), params := defArgs (top 26), body := defBody (top 26), scope := defScope (top 26), kwd := [] },
  { at_ := fun K => He.ga K (Str.ofString "scheme_text"), name := (Str.ofString "scheme_text"), qual := (Str.ofString "scheme_text"), params := defArgs (top 27), body := defBody (top 27), scope := defScope (top 27), kwd := [] },
  { at_ := fun K => He.ma K (He.ga K (Str.ofString "Scheme")) (Str.ofString "__len__"), name := (Str.ofString "__len__"), qual := (Str.ofString "Scheme.__len__"), params := defArgs (inCls (top 20) 10), body := defBody (inCls (top 20) 10), scope := defScope (inCls (top 20) 10), kwd := [] },
  { at_ := fun K => He.ma K (He.ga K (Str.ofString "Scheme")) (Str.ofString "__repr__"), name := (Str.ofString "__repr__"), qual := (Str.ofString "Scheme.__repr__"), params := defArgs (inCls (top 20) 11), body := defBody (inCls (top 20) 11), scope := defScope (inCls (top 20) 11), kwd := [] },
  { at_ := fun K => He.ma K (He.ga K (Str.ofString "Scheme")) (Str.ofString "site_named"), name := (Str.ofString "site_named"), qual := (Str.ofString "Scheme.site_named"), params := defArgs (inCls (top 20) 8), body := defBody (inCls (top 20) 8), scope := defScope (inCls (top 20) 8), kwd := [] },
  { at_ := fun K => He.ga K (Str.ofString "_law_scheme_so"), name := (Str.ofString "_law_scheme_so"), qual := (Str.ofString "_law_scheme_so"), params := defArgs (top 42), body := defBody (top 42), scope := defScope (top 42), kwd := [] },
  { at_ := fun K => He.ga K (Str.ofString "is_number"), name := (Str.ofString "is_number"), qual := (Str.ofString "is_number"), params := defArgs (top 24), body := defBody (top 24), scope := defScope (top 24), kwd := [] },
  { at_ := fun K => He.ga K (Str.ofString "is_signed"), name := (Str.ofString "is_signed"), qual := (Str.ofString "is_signed"), params := defArgs (top 25), body := defBody (top 25), scope := defScope (top 25), kwd := [] },
  { at_ := fun K => He.ga K (Str.ofString "site_in"), name := (Str.ofString "site_in"), qual := (Str.ofString "site_in"), params := defArgs (top 28), body := defBody (top 28), scope := defScope (top 28), kwd := [] },
  { at_ := fun K => He.ga K (Str.ofString "strangers_in"), name := (Str.ofString "strangers_in"), qual := (Str.ofString "strangers_in"), params := defArgs (top 29), body := defBody (top 29), scope := defScope (top 29), kwd := [] },
  { at_ := fun K => He.ga K (Str.ofString "scheme_parts"), name := (Str.ofString "scheme_parts"), qual := (Str.ofString "scheme_parts"), params := defArgs (top 30), body := defBody (top 30), scope := defScope (top 30), kwd := [] },
  { at_ := fun K => He.ga K (Str.ofString "read_scheme"), name := (Str.ofString "read_scheme"), qual := (Str.ofString "read_scheme"), params := defArgs (top 31), body := defBody (top 31), scope := defScope (top 31), kwd := [] },
  { at_ := fun K => He.ma K (He.ga K (Str.ofString "Scheme")) (Str.ofString "__eq__"), name := (Str.ofString "__eq__"), qual := (Str.ofString "Scheme.__eq__"), params := defArgs (inCls (top 20) 9), body := defBody (inCls (top 20) 9), scope := defScope (inCls (top 20) 9), kwd := [] }]
def fn1 : List He5.DefA := [{ at_ := fun K => He.ga K (Str.ofString "_law_mixed"), name := (Str.ofString "_law_mixed"), qual := (Str.ofString "_law_mixed"), params := defArgs (top 36), body := defBody (top 36), scope := defScope (top 36), kwd := [] },
  { at_ := fun K => He5.wf K (He.ga K (Str.ofString "Scheme")) "classmethod" (Str.ofString "plain"), name := (Str.ofString "plain"), qual := (Str.ofString "Scheme.plain"), params := defArgs (inCls (top 20) 3), body := defBody (inCls (top 20) 3), scope := defScope (inCls (top 20) 3), kwd := [] },
  { at_ := fun K => He.ga K (Str.ofString "law"), name := (Str.ofString "law"), qual := (Str.ofString "law"), params := defArgs (top 44), body := defBody (top 44), scope := defScope (top 44), kwd := [] }]
def fn : List He5.DefA := fn0 ++ fn1
theorem fx_of {K : PySem.W.Frag} {h : Heap} {mg : Str → Option Value} (X : K.In h) (G : h.Ns mainGlobals mg) (c : SaysX fa fn K) : Fx K mg where
  f0 := He.free_ok X G (c.fact 0)
  f1 := He.free_ok X G (c.fact 1)
  f2 := (He.glo_ok X G (c.fact 2))
  f3 := (c.fact 3)
  f4 := He.free_ok X G (c.fact 4)
  f5 := He.free_ok X G (c.fact 5)
  f6 := (c.fact 6)
  f7 := (He.glo_ok X G (c.fact 7))
  f8 := (c.fact 8)
  f9 := (He.glo_ok X G (c.fact 9))
  f10 := (c.fact 10)
  f11 := (He.glo_ok X G (c.fact 11))
  f12 := He.free_ok X G (c.fact 12)
  f13 := (c.fact 13)
  f14 := (He.glo_ok X G (c.fact 14))
  f15 := He.free_ok X G (c.fact 15)
  f16 := (c.fact 16)
  f17 := (He.glo_ok X G (c.fact 17))
  f18 := (He.glo_ok X G (c.fact 18))
  f19 := xReads_ok (c.fact 19)
  f20 := xCInt_ok (c.fact 20)
  f21 := He.free_ok X G (c.fact 21)
  f22 := gd_int (He.int_ok X G (c.fact 22))
  f23 := gd_str (He.str_ok X G (c.fact 23))
  f24 := He.free_ok X G (c.fact 24)
  f25 := (c.fact 25)
  f26 := (He.glo_ok X G (c.fact 26))
  f27 := gd_int (He.int_ok X G (c.fact 27))
  f28 := gd_int (He.int_ok X G (c.fact 28))
  f29 := (c.fact 29)
  f30 := (He.glo_ok X G (c.fact 30))
  f31 := (c.fact 31)
  f32 := (He.glo_ok X G (c.fact 32))
  f33 := xCInt_ok (c.fact 33)
  f34 := (c.fact 34)
  f35 := (He.glo_ok X G (c.fact 35))
  f36 := gd_int (He.int_ok X G (c.fact 36))
  f37 := He.free_ok X G (c.fact 37)
  f38 := attr_ok (He.glo_ok X G (c.fact 18)) (He.cls_ok (c.fact 38)) (He.noat_ok (c.fact 39))
  f39 := attr_ok (He.glo_ok X G (c.fact 18)) (He.cls_ok (c.fact 38)) (He.noat_ok (c.fact 40))
  f40 := attr_ok (He.glo_ok X G (c.fact 18)) (He.cls_ok (c.fact 38)) (He.noat_ok (c.fact 41))
  f41 := He.mkr_ok (c.fact 42)
  f42 := (c.fact 43)
  f43 := (He.glo_ok X G (c.fact 44))
  f44 := He.free_ok X G (c.fact 45)
  f45 := (c.fact 46)
  f46 := (He.glo_ok X G (c.fact 47))
  f47 := He.free_ok X G (c.fact 48)
  f48 := (c.fact 49)
  f49 := (He.glo_ok X G (c.fact 50))
  f50 := He.meth_ok (c.fact 51)
  f51 := (He.cls_ok (c.fact 38))
  f52 := xProp_ok (c.fact 52)
  f53 := He.meth_ok (c.fact 53)
  f54 := (c.fact 54)
  f55 := (He.glo_ok X G (c.fact 55))
  f56 := (c.fact 56)
  f57 := (He.glo_ok X G (c.fact 57))
  f58 := xMet_ok (c.fact 58)
  f59 := xMet_ok (c.fact 59)
  f60 := He.meth_ok (c.fact 60)
  f61 := (c.fact 61)
  f62 := (He.glo_ok X G (c.fact 62))
  f63 := gd_int (He.int_ok X G (c.fact 63))
  f64 := gd_str (He.str_ok X G (c.fact 64))
  f65 := (c.fact 65)
  f66 := (He.glo_ok X G (c.fact 66))
  f67 := (c.fact 67)
  f68 := (He.glo_ok X G (c.fact 68))
  f69 := (c.fact 69)
  f70 := (He.glo_ok X G (c.fact 70))
  f71 := (c.fact 71)
  f72 := (He.glo_ok X G (c.fact 72))
  f73 := (c.fact 73)
  f74 := (He.glo_ok X G (c.fact 74))
  f75 := (c.fact 75)
  f76 := (He.glo_ok X G (c.fact 76))
  f77 := He.free_ok X G (c.fact 77)
  f78 := xMet_ok (c.fact 78)
  f79 := of_decide_eq_true (c.fact 79)
  f80 := of_decide_eq_true (c.fact 80)
  f81 := (c.fact 81)
  f82 := (He.glo_ok X G (c.fact 82))
  f83 := xCm_ok (c.fact 83)
  isi := fun r hr => by
      rcases (by simpa [tb_isi] using hr : r = ((Str.ofString "Scheme"), (Str.ofString "Scheme"), true)) with e
      · subst e; exact xIsi_ok (He.glo_ok X G (c.fact 18)) (He.glo_ok X G (c.fact 18)) (He.cls_ok (c.fact 38)) (c.fact 84)
  d_law_source := c.def_ 0
  d_law_draw := c.def_ 1
  d_law_pick := c.def_ 2
  d_law_names := c.def_ 3
  d_law_site := c.def_ 4
  d_law_spec := c.def_ 5
  d_is_name := c.def_ 6
  d_is_amount := c.def_ 7
  d_is_site := c.def_ 8
  d_repeated := c.def_ 9
  d_Scheme_dinit := c.def_ 10
  d_law_scheme := c.def_ 11
  d_law_scheme_lines := c.def_ 12
  d_law_same := c.def_ 13
  d_Scheme_sites := c.def_ 14
  d_Scheme_strangers := c.def_ 15
  d_Scheme_names := c.def_ 16
  d_scheme_lines := c.def_ 17
  d_scheme_text := c.def_ 18
  d_Scheme_dlen := c.def_ 19
  d_Scheme_drepr := c.def_ 20
  d_Scheme_site_named := c.def_ 21
  d_law_scheme_so := c.def_ 22
  d_is_number := c.def_ 23
  d_is_signed := c.def_ 24
  d_site_in := c.def_ 25
  d_strangers_in := c.def_ 26
  d_scheme_parts := c.def_ 27
  d_read_scheme := c.def_ 28
  d_Scheme_deq := c.def_ 29
  d_law_mixed := c.def_ 30
  d_Scheme_plain := c.def_ 31
  d_law := c.def_ 32
abbrev RR : PySem.W.OpenRow := PySem.W.OpenLaw.row PySem.Challenge.rw_cutranks_k57_texts_of_schemes
abbrev hk : PySem.W.Hook := hookX 6 fa fn
def ob (s : PySem.W.SharedT) : He.AlD := obXG 6 fa fn (HandSHeadRun.getT s)
theorem ob_eq (s : PySem.W.SharedT) : ob s = hk.obs s.abs := obXG_eq (HandSHeadRun.getT_eq s)

def loose0 : List Str := ["_wall", "RankError", "Missing", "WrongCount", "InvalidSite", "InvalidItem", "InvalidStrangers", "InvalidText", "UnknownSite", "LETTERS", "MOST_SIGNS", "MOST_WEIGHT", "MOST_AMOUNT", "MOST_STRANGERS", "is_name", "is_amount", "is_site", "repeated", "Scheme", "FIGURES"]
def loose1 : List Str := ["MOST_FIGURES", "is_number", "is_signed", "scheme_lines", "scheme_text", "site_in", "strangers_in", "scheme_parts", "read_scheme", "_law_source", "_law_draw", "_law_pick", "_law_mixed", "_law_same", "_law_names", "_law_site", "_law_spec", "_law_scheme", "_law_scheme_so", "_law_scheme_lines"]
def loose : List Str := loose0 ++ loose1
abbrev qv : Program := PySem.W.view RR.prog [44]
theorem run (w : World) : HandSHeadRun.RunEq RR qv hk ob 8000 loose w := by
  intro os
  kernel_rfl
end K57
end DL

set_option maxHeartbeats 0
namespace DL
open PySem PySem.Spec PyProof.Rows L2 ClX
namespace K57
theorem facts {P : Program} {w : World} {K : PySem.W.Frag} {h : Heap} {mg : Str → Option Value} {f : Addr} (X : K.In h) (G : h.Ns mainGlobals mg) (hfa : mg (Str.ofString "law") = some (.ref f)) (c : SaysX fa fn K) :
    ∃ fd : FuncData, (∀ (s : Shared) (v : Value), BindsTo s fd ⟨[v], []⟩ [("_law_script", v)]) ∧ ∀ base : Heap, K.In base → base.Ns mainGlobals mg → FnG P w K mg base 6 f fd [("_law_script" : Str)] m_law := by
  have Z : Fx K mg := fx_of X G c
  obtain ⟨fd, F⟩ := Z.d_law
  have e := hfa.symm.trans (He.glo_ok X G (c.fact 85))
  cases e
  have b := FunD.bindsA (ps := ["_law_script"]) F fun _ _ _ _ _ _ us hl => match us, hl with | [_], _ => rfl
  exact ⟨fd, fun s v => b s [v] rfl, fun base _ _ => g_law Z F⟩
end K57
end DL
open PySem PySem.W PySem.Calls PyProof.Rows
theorem PySem.Challenge.cw_cutranks_k57_texts_of_schemes_holds : PySem.Challenge.rw_cutranks_k57_texts_of_schemes.Holds := by
  w_on; o_law
  refine HandSHeadRun.head_any (r := OpenLaw.row PySem.Challenge.rw_cutranks_k57_texts_of_schemes) (q := DL.K57.qv) (H := DL.K57.hk) (ob := DL.K57.ob) (M := 8000) (loose := DL.K57.loose) (d := HandSHeadRun.topDef (OpenLaw.row PySem.Challenge.rw_cutranks_k57_texts_of_schemes).prog 44) (kwd := []) DL.K57.ob_eq
    (by kernel_rfl) (fun s => by kernel_rfl) DL.K57.run (by kernel_rfl) (by kernel_rfl) (by kernel_rfl) (by rfl) (by first | assumption | decide +kernel) (by decide +kernel) ⟨rfl, rfl, rfl, rfl, rfl, by decide +kernel⟩ ?hw ?hc
  case hw => w_witness2
  case hc =>
    refine DL.walk_g (l := PySem.Challenge.rw_cutranks_k57_texts_of_schemes) (n := 63) (k := 6) (x := "_law_script") (m := DL.K57.m_law) rfl (by decide) (by kernel_rfl) ⟨⟨rfl, by decide, by decide⟩, rfl⟩ ?F DL.K57.law_k57
    intro w mg fa h Y G hmg0
    obtain ⟨K, KX, c⟩ := Y
    have hmg : mg (Str.ofString "law") = some (.ref fa) := by
      have e : (HandSHeadRun.topDef (OpenLaw.row PySem.Challenge.rw_cutranks_k57_texts_of_schemes).prog 44).name = (Str.ofString "law") := by kernel_rfl
      rw [← e]
      exact hmg0
    obtain ⟨fd, hb, hF⟩ := DL.K57.facts (P := (PySem.Challenge.rw_cutranks_k57_texts_of_schemes).prog) (w := w) KX G hmg c
    exact ⟨K, fd, KX, hb, hF⟩
