import PyProof.Rows.All
import Wide.All
import OpenK.AllK
import Wide.FinOn
import HandS.ForExc
import HandS.Comp
import HandS.Wide
import HandS.Gcd
import HandS.IsInst
import HandS.CallSlots
import HandS.Iter
import HandS.Flow
import HandS.ExcInit
import HandS.Text
import KE.KStateDown
import HandS.Exc
import HandS.ExcField
import HandS.Ends
import HandS.Head0
import HandS.Head1
import HandS.Head2
import HandS.Head3
import HandS.HeadEnd
import HandS.HeadHook1
import HandS.HeadHook2
import HandS.HeadHook3
import HandS.HeadHook4
import HandS.TupAny
import HandS.WideBits
import HandS.Zip
import HandS.Style
import HandS.Deep
import HandS.Defaults
import HandS.More
import HandS.ExcIs
import HandS.HotCalls
import HandS.TryMany
import PySem.Challenge.RW_fetchedwork_k00_whole_ratios_reckoned
set_option Elab.async false
set_option linter.all false
set_option maxRecDepth 100000
set_option maxHeartbeats 2000000
namespace Py
open PySem L2

/-! ## 1. Data -/
inductive D where
  | non | bl (b : Bool) | int (i : Int) | str (s : Str)
  | tup (l : List D) | lst (l : List D) | scr (l : List Int)
  | ins (c : Nat) (ns : List Str) (l : List D)

structure Gm where
  K : PySem.W.Frag
  cl : Nat → Addr

mutual
inductive IsD (Γ : Gm) (H : Hp) : V → D → Prop
  | non : IsD Γ H .non .non
  | bl (b : Bool) : IsD Γ H (.bl b) (.bl b)
  | int (i : Int) : IsD Γ H (.int i) (.int i)
  | str (s : Str) : IsD Γ H (.str s) (.str s)
  | tup {a : Addr} {xs : List V} {l : List D} : SqT Γ.K H a xs → IsDs Γ H xs l → IsD Γ H (.ref a) (.tup l)
  | lst {a : Addr} {xs : List V} {l : List D} : H a = some (.lst xs) → IsDs Γ H xs l → IsD Γ H (.ref a) (.lst l)
  | scr {a : Addr} {l : List Int} : SqL Γ.K H a (l.map V.int) → IsD Γ H (.ref a) (.scr l)
  | ins {a dx : Addr} {c : Nat} {ns : List Str} {xs : List V} {l : List D} : H a = some (.ins (Γ.cl c) dx (ns.zip xs)) → ns.length = xs.length → IsDs Γ H xs l → IsD Γ H (.ref a) (.ins c ns l)
inductive IsDs (Γ : Gm) (H : Hp) : List V → List D → Prop
  | nil : IsDs Γ H [] []
  | cons {v : V} {vs : List V} {d : D} {ds : List D} : IsD Γ H v d → IsDs Γ H vs ds → IsDs Γ H (v :: vs) (d :: ds)
end

theorem sqT_mono {K : PySem.W.Frag} {H H' : Hp} {a : Addr} {xs : List V} (e : Same H H') (h : SqT K H a xs) : SqT K H' a xs := by
  rcases h with (h | ⟨o, h⟩) | h
  · exact .inl (.inl (e _ _ h))
  · exact .inl (.inr ⟨o, e _ _ h⟩)
  · exact .inr h

mutual
theorem IsD.mono {Γ : Gm} {H H' : Hp} (e : Same H H') : ∀ (d : D) (v : V), IsD Γ H v d → IsD Γ H' v d
  | .non, _, h => by cases h; exact .non
  | .bl b, _, h => by cases h; exact .bl b
  | .int i, _, h => by cases h; exact .int i
  | .str s, _, h => by cases h; exact .str s
  | .tup l, _, h => by
    cases h with
    | tup h1 h2 => exact .tup (sqT_mono e h1) (IsDs.mono e l _ h2)
  | .lst l, _, h => by
    cases h with
    | lst h1 h2 => exact .lst (e _ _ h1) (IsDs.mono e l _ h2)
  | .scr l, _, h => by
    cases h with
    | scr h1 => exact .scr (e.seq h1)
  | .ins c ns l, _, h => by
    cases h with
    | ins h1 h0 h2 => exact .ins (e _ _ h1) h0 (IsDs.mono e l _ h2)
theorem IsDs.mono {Γ : Gm} {H H' : Hp} (e : Same H H') : ∀ (ds : List D) (vs : List V), IsDs Γ H vs ds → IsDs Γ H' vs ds
  | [], _, h => by cases h; exact .nil
  | d :: ds, _, h => by
    cases h with
    | cons h1 h2 => exact .cons (IsD.mono e d _ h1) (IsDs.mono e ds _ h2)
end
section
variable {Γ : Gm} {H H' : Hp}
theorem IsD.le (e : Same H H') {d : D} {v : V} (h : IsD Γ H v d) : IsD Γ H' v d := IsD.mono e d v h
theorem IsDs.le (e : Same H H') {d : List D} {v : List V} (h : IsDs Γ H v d) : IsDs Γ H' v d := IsDs.mono e d v h
theorem IsDs.length : ∀ {vs : List V} {ds : List D}, IsDs Γ H vs ds → vs.length = ds.length
  | _, _, .nil => rfl
  | _, _, .cons _ t => congrArg (· + 1) (IsDs.length t)
theorem IsDs.get : ∀ {vs : List V} {ds : List D} {i : Nat} {d : D}, IsDs Γ H vs ds → ds[i]? = some d → ∃ v, vs[i]? = some v ∧ IsD Γ H v d
  | _, _, _, _, .nil, e => by simp at e
  | _, _, 0, _, .cons r _, e => by simp at e; subst e; exact ⟨_, rfl, r⟩
  | _, _, i + 1, _, .cons _ t, e => by
    obtain ⟨u, h1, h2⟩ := IsDs.get (i := i) t (by simpa using e)
    exact ⟨u, by simpa using h1, h2⟩
theorem IsDs.getV : ∀ {vs : List V} {ds : List D} {i : Nat} {v : V}, IsDs Γ H vs ds → vs[i]? = some v → ∃ d, ds[i]? = some d ∧ IsD Γ H v d
  | _, _, _, _, .nil, e => by simp at e
  | _, _, 0, _, .cons r _, e => by simp at e; subst e; exact ⟨_, rfl, r⟩
  | _, _, i + 1, _, .cons _ t, e => by
    obtain ⟨u, h1, h2⟩ := IsDs.getV (i := i) t (by simpa using e)
    exact ⟨u, by simpa using h1, h2⟩
theorem IsDs.append : ∀ {vs us : List V} {ds es : List D}, IsDs Γ H vs ds → IsDs Γ H us es → IsDs Γ H (vs ++ us) (ds ++ es)
  | _, _, _, _, .nil, s => s
  | _, _, _, _, .cons r t, s => .cons r (IsDs.append t s)
theorem IsDs.set {v : V} {d : D} (r : IsD Γ H v d) : ∀ {vs : List V} {ds : List D} (i : Nat), IsDs Γ H vs ds → IsDs Γ H (vs.set i v) (ds.set i d)
  | _, _, _, .nil => .nil
  | _, _, 0, .cons _ t => .cons r t
  | _, _, i + 1, .cons q t => .cons q (IsDs.set r i t)
theorem IsDs.take : ∀ {vs : List V} {ds : List D} (n : Nat), IsDs Γ H vs ds → IsDs Γ H (vs.take n) (ds.take n)
  | _, _, 0, _ => .nil
  | _, _, _ + 1, .nil => .nil
  | _, _, n + 1, .cons r t => .cons r (IsDs.take n t)
theorem IsDs.drop : ∀ {vs : List V} {ds : List D} (n : Nat), IsDs Γ H vs ds → IsDs Γ H (vs.drop n) (ds.drop n)
  | _, _, 0, h => h
  | _, _, _ + 1, .nil => .nil
  | _, _, n + 1, .cons _ t => IsDs.drop n t
theorem IsDs.ints : ∀ {ns : List Int} {vs : List V}, IsDs Γ H vs (ns.map D.int) → vs = ns.map V.int
  | [], _, h => by cases h; rfl
  | n :: ns, _, h => by
    cases h with
    | cons h1 h2 =>
      cases h1
      rw [IsDs.ints h2]; rfl
theorem isDs_ints : ∀ (ns : List Int), IsDs Γ H (ns.map V.int) (ns.map D.int)
  | [] => .nil
  | n :: ns => .cons (.int n) (isDs_ints ns)
end

/-! ## 2. Hidden addresses, the environment, the frame -/
open Classical in
noncomputable def hide (S : Addr → Prop) (G : Hp) : Hp := fun a => if S a then none else G a
theorem hide_some {S : Addr → Prop} {G : Hp} {a : Addr} {o : HO} : hide S G a = some o ↔ ¬ S a ∧ G a = some o := by
  unfold hide
  by_cases h : S a
  · simp [h]
  · simp [h]
theorem hide_of {S : Addr → Prop} {G : Hp} {a : Addr} {o : HO} (h : ¬ S a) (e : G a = some o) : hide S G a = some o := hide_some.mpr ⟨h, e⟩
theorem hide_le {S : Addr → Prop} {G : Hp} : Same (hide S G) G := fun _ _ h => (hide_some.mp h).2
theorem hide_ext {S : Addr → Prop} {G G' : Hp} (e : Same G G') : Same (hide S G) (hide S G') := fun a o h => by
  obtain ⟨h1, h2⟩ := hide_some.mp h
  exact hide_of h1 (e _ _ h2)
theorem hide_less {S S' : Addr → Prop} {G : Hp} (k : ∀ a, S' a → S a) : Same (hide S G) (hide S' G) := fun a o h => by
  obtain ⟨h1, h2⟩ := hide_some.mp h
  exact hide_of (fun z => h1 (k a z)) h2
theorem same_upd {H : Hp} {p : Addr} {o : HO} (h : H p = none) : Same H (upd H p o) := fun a u e => by
  rw [upd_ne (ne_of_none e h)]
  exact e

abbrev Env := List (Option D)
inductive Rs (α : Type) where
  | ok (a : α) (ρ : Env)
  | exc (e : D) (ρ : Env)
  | stuck
def Rs.bind {α β : Type} (r : Rs α) (f : α → Env → Rs β) : Rs β := match r with
  | .ok a ρ => f a ρ
  | .exc e ρ => .exc e ρ
  | .stuck => .stuck
def Rs.ofOpt {α : Type} (o : Option α) (ρ : Env) : Rs α := match o with
  | some a => .ok a ρ
  | none => .stuck

/-- the error that an except suite holds: its slot, the object, its class and dict, what it is -/
structure XS where
  i : Nat
  a : Addr
  cls : Value
  dx : Option Addr
  e : D
structure Frm where
  ow : List Nat
  hd : Bool
  hp : Addr
  B : Hp
  S0 : Addr → Prop
  W : WX
  xs : Option XS := none
def Frm.notOwn (fr : Frm) (i : Nat) : Bool := !fr.ow.contains i
def Frm.isOwn (fr : Frm) (i : Nat) : Bool := fr.ow.contains i
theorem nown {fr : Frm} {i : Nat} (h : fr.notOwn i = true) : i ∉ fr.ow := fun z => by
  unfold Frm.notOwn at h
  have e : fr.ow.contains i = true := by simpa using z
  rw [e] at h; cases h
theorem isown {fr : Frm} {i : Nat} (h : fr.isOwn i = true) : i ∈ fr.ow := by
  unfold Frm.isOwn at h
  simpa using h
theorem allown {fr : Frm} {vs : List Nat} (h : (fr.ow.all fun k => !vs.contains k) = true) : ∀ k ∈ fr.ow, k ∉ vs := fun k hk hv => by
  have h1 := List.all_eq_true.mp h k hk
  have e : vs.contains k = true := by simpa using hv
  rw [e] at h1; cases h1
def Frm.xok (fr : Frm) (i : Nat) : Bool := match fr.xs with
  | none => true
  | some q => decide (q.i ≠ i)
theorem Frm.xok_ne {fr : Frm} {i : Nat} (h : fr.xok i = true) {q : XS} (e : fr.xs = some q) : q.i ≠ i := by
  unfold Frm.xok at h
  rw [e] at h
  exact of_decide_eq_true h
def IsX (Γ : Gm) (H : Hp) (cls : Value) (dx : Option Addr) (e : D) : Prop :=
  ∃ c ns l, e = .ins c ns l ∧ cls = .ref (Γ.cl c) ∧ ((ns = [] ∧ l = [] ∧ dx = none) ∨ ∃ x xs, dx = some x ∧ H x = some (.xd (ns.zip xs)) ∧ ns.length = xs.length ∧ IsDs Γ H xs l)
theorem IsX.le {Γ : Gm} {H H' : Hp} {cls : Value} {dx : Option Addr} {e : D} (s : Same H H') (h : IsX Γ H cls dx e) : IsX Γ H' cls dx e := by
  obtain ⟨c, ns, l, rfl, rfl, h⟩ := h
  refine ⟨c, ns, l, rfl, rfl, ?_⟩
  rcases h with h | ⟨x, xs, h1, h2, h3, h4⟩
  · exact .inl h
  · exact .inr ⟨x, xs, h1, s _ _ h2, h3, h4.le s⟩

structure Co (Γ : Gm) (fr : Frm) (σ : L2.St) (ρ : Env) (G : Hp) (S : Addr → Prop) : Prop where
  len : σ.length = ρ.length
  dom : ∀ a, S a → ∃ o, G a = some o
  sub : ∀ a, fr.S0 a → S a
  keep : ∀ a o, (fr.hd = true → a ≠ fr.hp) → fr.B a = some o → G a = some o
  pin : fr.hd = true → σ[0]? = some (some (.ref fr.hp))
  hs0 : fr.hd = true → fr.S0 fr.hp
  xsl : ∀ q, fr.xs = some q → σ[q.i]? = some (some (.ref q.a)) ∧ IsX Γ (hide S G) q.cls q.dx q.e
  sh : ∀ i d, i ∉ fr.ow → ρ[i]? = some (some d) → ∃ v, σ[i]? = some (some v) ∧ IsD Γ (hide S G) v d
  own : ∀ i d, i ∈ fr.ow → ρ[i]? = some (some d) → ∃ p xs l, d = .lst l ∧ σ[i]? = some (some (.ref p)) ∧ S p ∧ G p = some (.lst xs) ∧ IsDs Γ (hide S G) xs l ∧ ((fr.hd = true ∧ i = 0 ∧ p = fr.hp) ∨ (fr.B p = none ∧ ¬ fr.S0 p))
  inj : ∀ i j d e p, i ∈ fr.ow → j ∈ fr.ow → i ≠ j → ρ[i]? = some (some d) → ρ[j]? = some (some e) → σ[i]? = some (some (.ref p)) → σ[j]? = some (some (.ref p)) → False

section
variable {Γ : Gm} {fr : Frm} {σ : L2.St} {ρ : Env} {G G' : Hp} {S S' : Addr → Prop}
theorem Co.ext (c : Co Γ fr σ ρ G S) (e : Same G G') : Co Γ fr σ ρ G' S where
  len := c.len
  dom := fun a h => by
    obtain ⟨o, h'⟩ := c.dom a h
    exact ⟨o, e _ _ h'⟩
  sub := c.sub
  keep := fun a o h1 h2 => e _ _ (c.keep a o h1 h2)
  pin := c.pin
  hs0 := c.hs0
  xsl := fun q h => ⟨(c.xsl q h).1, (c.xsl q h).2.le (hide_ext e)⟩
  sh := fun i d h1 h2 => by
    obtain ⟨v, h3, h4⟩ := c.sh i d h1 h2
    exact ⟨v, h3, h4.le (hide_ext e)⟩
  own := fun i d h1 h2 => by
    obtain ⟨p, xs, l, h3, h4, h5, h6, h7, h8⟩ := c.own i d h1 h2
    exact ⟨p, xs, l, h3, h4, h5, e _ _ h6, h7.le (hide_ext e), h8⟩
  inj := c.inj
theorem Co.fresh (c : Co Γ fr σ ρ G S) {p : Addr} (h : G p = none) : ¬ S p := fun z => by
  obtain ⟨o, e⟩ := c.dom p z
  rw [h] at e; cases e
/-- a new shared object -/
theorem Co.hideNew (c : Co Γ fr σ ρ G S) {p : Addr} {o : HO} (h : G p = none) : hide S (upd G p o) p = some o := hide_of (c.fresh h) upd_same

def PostG {α β : Type} (R : Hp → β → α → Prop) (Γ : Gm) (fr : Frm) (σ : L2.St) (G : Hp) (S : Addr → Prop) (Q : β → Hp → Prop) (r : Rs α) : Prop := match r with
  | .ok d ρ' => ∀ v G' S', Same (hide S G) (hide S' G') → Co Γ fr σ ρ' G' S' → R (hide S' G') v d → Q v G'
  | .exc e ρ' => ∀ cls dx G' S', Same (hide S G) (hide S' G') → Co Γ fr σ ρ' G' S' → IsX Γ (hide S' G') cls dx e → fr.W cls dx σ G'
  | .stuck => False
theorem PostG.mono {α β : Type} {R : Hp → β → α → Prop} {Q : β → Hp → Prop} {r : Rs α} (e : Same (hide S G) (hide S' G')) (h : PostG R Γ fr σ G S Q r) : PostG R Γ fr σ G' S' Q r := by
  cases r with
  | ok d ρ' => exact fun v G2 S2 e2 c r => h v G2 S2 (e.trans e2) c r
  | exc x ρ' => exact fun cls dx G2 S2 e2 c r => h cls dx G2 S2 (e.trans e2) c r
  | stuck => exact h

def EVG {α β : Type} (R : Hp → β → α → Prop) (Γ : Gm) (fr : Frm) (te : L2.St → Hp → (β → Hp → Prop) → Prop) (m : Env → Rs α) : Prop :=
  ∀ σ ρ G S, Co Γ fr σ ρ G S → ∀ Q, PostG R Γ fr σ G S Q (m ρ) → te σ G Q
abbrev EV (Γ : Gm) (fr : Frm) (te : TE) (m : Env → Rs D) : Prop := EVG (fun H v d => IsD Γ H v d) Γ fr te m
abbrev EA (Γ : Gm) (fr : Frm) (te : TA) (m : Env → Rs (List D)) : Prop := EVG (fun H v d => IsDs Γ H v d) Γ fr te m
abbrev ET (Γ : Gm) (fr : Frm) (te : TT) (m : Env → Rs Bool) : Prop := EVG (fun _ v d => v = d) Γ fr te m

theorem EVG.step {α β α' β' : Type} {R : Hp → β → α → Prop} {R' : Hp → β' → α' → Prop} {te : L2.St → Hp → (β → Hp → Prop) → Prop} {m : Env → Rs α} {f : α → Env → Rs α'} {Q : β' → Hp → Prop} {Q1 : β → Hp → Prop}
    (h : EVG R Γ fr te m) (c : Co Γ fr σ ρ G S) (p : PostG R' Γ fr σ G S Q ((m ρ).bind f))
    (k : ∀ d ρ' v G' S', Same (hide S G) (hide S' G') → Co Γ fr σ ρ' G' S' → R (hide S' G') v d → PostG R' Γ fr σ G' S' Q (f d ρ') → Q1 v G') : te σ G Q1 := by
  refine h σ ρ G S c Q1 ?_
  generalize m ρ = r at p ⊢
  cases r with
  | ok d ρ' => exact fun v G' S' e c' r => k d ρ' v G' S' e c' r (PostG.mono e p)
  | exc x ρ' => exact p
  | stuck => exact p
theorem PostG.give {α β : Type} {R : Hp → β → α → Prop} {Q : β → Hp → Prop} {d : α} {v : β} {ρ' : Env} (h : PostG R Γ fr σ G S Q (.ok d ρ')) (e : Same (hide S G) (hide S' G')) (c : Co Γ fr σ ρ' G' S') (r : R (hide S' G') v d) : Q v G' := h v G' S' e c r
theorem PostG.giveO {α β : Type} {R : Hp → β → α → Prop} {Q : β → Hp → Prop} {o : Option α} {ρ' : Env} (h : PostG R Γ fr σ G S Q (Rs.ofOpt o ρ')) : ∃ d, o = some d ∧ PostG R Γ fr σ G S Q (.ok d ρ') := by
  cases o with
  | none => exact h.elim
  | some d => exact ⟨d, rfl, h⟩
end
end Py

set_option Elab.async false
set_option linter.all false
set_option maxRecDepth 100000
set_option maxHeartbeats 2000000
namespace Py
open PySem L2 He
open PyProof.Rows (envOfC)
/-! ## 15. What the top has laid: facts by names -/
abbrev Fb : Type := PySem.W.Frag → Bool
def fGlo (x : Str) : Fb := fun K => eqO (PySem.W.nsIn K mainGlobals x) (some (some (.ref (ga K x))))
def fFree (x : Str) : Fb := fun K => eqO (PySem.W.nsIn K mainGlobals x) (some none)
def fBlt (x : Str) (id : String) : Fb := fun K => eqO (PySem.W.nsIn K mainGlobals x) (some (some (.builtin id)))
def fInt (x : Str) (i : Int) : Fb := fun K => (Fa.int x i).ok K
def fStr (x z : Str) : Fb := fun K => (Fa.str x z).ok K
def fNo (x f : Str) : Fb := fun K => eqO (PySem.W.findIn K (.ref (ga K x)) f) (some none)
def fXf (x : Str) : Fb := fun K => xfB K (ga K x)
def fExm (x : Str) (y : PySem.W.Frag → Value) (b : Bool) : Fb := fun K => decide (PySem.W.exmOne K (.ref (ga K x)) (y K) = some b)
def fKit (x : Str) (y : PySem.W.Frag → Value) : Fb := fun K => decide (PySem.W.kitOne K (.ref (ga K x)) (y K) = some true)
def fIni (x : Str) : Fb := fun K => eqO (PySem.W.findIn K (.ref (ga K x)) "__init__") (some (some (.ref (ma K (ga K x) "__init__")))) && decide (PySem.W.typeIn K (.ref (ma K (ga K x) "__init__")) = some (.type "function"))
def fExc (x : Str) : Fb := fun K => (match K.lookup (ga K x) with
  | some ⟨.type "type", _, .cls cd, sl⟩ => (match cd.mro, sl.toList with
    | .ref c :: bm, [_, _, _, _, some (.builtin n), _] => c == ga K x && (n == "ValueError.__new__" && (!cd.hasDel && (cd.hasDict && PySem.HandSPX.refsVE bm)))
    | _, _ => false)
  | _ => false) && (eqO (PySem.W.findIn K (.ref (ga K x)) "__setattr__") (some (some (.builtin "object.__setattr__"))) && (decide (PySem.W.subIn K (.ref (ga K x)) (.type "BaseException") = some true) && (decide (PySem.W.typeIn K (.ref (ga K x)) = some (.type "type")) && PySem.W.keepIn K (.ref (ga K x)))))
theorem fExc_ok {K : PySem.W.Frag} {x : Str} (h : fExc x K = true) : OexC K (ga K x) := by
  obtain ⟨q, h⟩ := ba h
  obtain ⟨h2, h⟩ := ba h
  obtain ⟨h3, h⟩ := ba h
  obtain ⟨h4, h5⟩ := ba h
  refine ⟨?_, eqO_ok h2, of_decide_eq_true h3, of_decide_eq_true h4, h5⟩
  split at q
  · rename_i dd cd sl ho
    split at q
    · rename_i c bm z0 z1 z2 z3 n z5 hm hs
      simp only [Bool.and_eq_true, beq_iff_eq, Bool.not_eq_true'] at q
      obtain ⟨ec, en, ed, eh, er⟩ := q
      obtain ⟨nm, bs, mro, ns, qn, hd, sn, sub, ab, col, del⟩ := cd
      dsimp only at hm ed eh
      subst hm ed en eh
      have es : sl = #[z0, z1, z2, z3, some (.builtin "ValueError.__new__"), z5] := by
        obtain ⟨l⟩ := sl
        simp only at hs
        rw [hs]
      subst es
      rw [ec] at ho
      exact ⟨nm, qn, ns, bs, bm, sn, sub, ab, col, dd, z0, z1, z2, z3, z5, ho, er⟩
    · cases q
  · cases q
mutual
def datB (K : PySem.W.Frag) : D → Value → Bool
  | .non, .none => true
  | .bl b, .bool c => b == c
  | .int i, .int j _ => decide (i = j)
  | .str x, .str y _ => decide (x = y)
  | .tup l, .ref a => (match K.lookup a with
    | some ⟨.type c, _, .seq its _, _⟩ => decide (c = "tuple") && (decide (its.size ≤ sizeLine) && datsB K l its.toList)
    | _ => false)
  | _, _ => false
def datsB (K : PySem.W.Frag) : List D → List Value → Bool
  | [], [] => true
  | d :: ds, u :: us => datB K d u && datsB K ds us
  | _, _ => false
end
mutual
theorem datB_ok {Γ : Gm} : ∀ (d : D) (u : Value), datB Γ.K d u = true → ∃ v, RelV v u ∧ (∀ a, u = .ref a → v = .ref a) ∧ ∀ H, IsD Γ H v d
  | .non, u, h => by cases u <;> first | (unfold datB at h; cases h; done) | exact ⟨.non, rfl, (fun a e => by cases e), fun H => .non⟩
  | .bl b, u, h => by
    cases u <;> first | (unfold datB at h; cases h; done) | skip
    rename_i c
    unfold datB at h
    exact ⟨.bl b, by rw [eq_of_beq h]; rfl, (fun a e => by cases e), fun H => .bl b⟩
  | .int i, u, h => by
    cases u <;> first | (unfold datB at h; cases h; done) | skip
    rename_i j t
    unfold datB at h
    exact ⟨.int i, ⟨t, by rw [of_decide_eq_true h]⟩, (fun a e => by cases e), fun H => .int i⟩
  | .str x, u, h => by
    cases u <;> first | (unfold datB at h; cases h; done) | skip
    rename_i j t
    unfold datB at h
    exact ⟨.str x, ⟨t, by rw [of_decide_eq_true h]⟩, (fun a e => by cases e), fun H => .str x⟩
  | .tup l, u, h => by
    cases u <;> first | (unfold datB at h; cases h; done) | skip
    rename_i a
    unfold datB at h
    cases q : Γ.K.lookup a with
    | none => rw [q] at h; cases h
    | some o =>
      obtain ⟨oc, od, dt, osl⟩ := o
      rw [q] at h
      cases oc <;> first | (cases dt <;> cases h; done) | skip
      cases dt <;> first | (cases h; done) | skip
      rename_i c its n
      obtain ⟨h1, h2⟩ := ba h
      obtain ⟨h3, h4⟩ := ba h2
      obtain ⟨vs, h5, h6⟩ := datsB_ok l its.toList h4
      exact ⟨.ref a, rfl, (fun b e => by cases e; rfl), fun H => .tup (.inr ⟨_, its, n, q, congrArg Value.type (of_decide_eq_true h1), rfl, of_decide_eq_true h3, h5⟩) (h6 H)⟩
  | .lst l, u, h => by cases u <;> (unfold datB at h; cases h)
  | .scr l, u, h => by cases u <;> (unfold datB at h; cases h)
  | .ins c n l, u, h => by cases u <;> (unfold datB at h; cases h)
theorem datsB_ok {Γ : Gm} : ∀ (ds : List D) (us : List Value), datsB Γ.K ds us = true → ∃ vs, Vals vs us ∧ ∀ H, IsDs Γ H vs ds
  | [], [], _ => ⟨[], .nil, fun _ => .nil⟩
  | [], _ :: _, h => by unfold datsB at h; cases h
  | _ :: _, [], h => by unfold datsB at h; cases h
  | d :: ds, u :: us, h => by
    unfold datsB at h
    obtain ⟨h1, h2⟩ := ba h
    obtain ⟨v, r1, _, e1⟩ := datB_ok d u h1
    obtain ⟨vs, r2, e2⟩ := datsB_ok ds us h2
    exact ⟨v :: vs, .cons r1 r2, fun H => .cons (e1 H) (e2 H)⟩
end
def fDat (x : Str) (d : D) : Fb := fun K => datB K d (.ref (ga K x))
theorem fDat_ok {Γ : Gm} {x : Str} {d : D} (h : fDat x d Γ.K = true) (H : Hp) : IsD Γ H (.ref (ga Γ.K x)) d := by
  obtain ⟨v, _, h2, h3⟩ := datB_ok (Γ := Γ) d _ h
  have e := h2 _ rfl
  subst e
  exact h3 H
abbrev hkF (n : Nat) (fn : List DefD) (L : List Fb) : PySem.W.Hook := hookX n [] fn [] [] (fun K => L.all fun f => f K)
def obF (n : Nat) (fn : List DefD) (L : List Fb) (s : PySem.W.SharedT) : AlX := obsX n [] fn [] [] (fun K => L.all fun f => f K) (HandSHeadRun.getT s)
theorem obF_eq (n : Nat) (fn : List DefD) (L : List Fb) (s : PySem.W.SharedT) : obF n fn L s = (hkF n fn L).obs s.abs := obsX_eq (HandSHeadRun.getT_eq s)
section
variable {fn : List DefD} {L : List Fb} {w : World} {h : Heap} {K : PySem.W.Frag} {mg : Str → Option Value}
theorem fact_at (c : SaysX [] fn [] [] (fun K => L.all fun f => f K) w h K) (i : Nat) {f : Fb} (e : L[i]? = some f := by rfl) : f K = true := List.all_eq_true.mp c.more f (List.mem_of_getElem? e)
theorem def_at (c : SaysX [] fn [] [] (fun K => L.all fun f => f K) w h K) (i : Nat) {d : DefD} (e : fn[i]? = some d := by rfl) : ∃ fd, FunD K d.name d.qual d.params d.body d.scope (d.dvs K) (d.kws K) (fAd K d.at_) fd := c.t.d.def_ i e
theorem glo_at (X : K.In h) (G : h.Ns mainGlobals mg) {x : Str} (c : fGlo x K = true) : mg x = some (.ref (ga K x)) := PySem.W.mg_of X G (eqO_ok c)
theorem free_at (X : K.In h) (G : h.Ns mainGlobals mg) {x : Str} (c : fFree x K = true) : mg x = none := PySem.W.mg_none_of X G (eqO_ok c)
theorem blt_at (X : K.In h) (G : h.Ns mainGlobals mg) {x : Str} {id : String} (c : fBlt x id K = true) : mg x = some (.builtin id) := PySem.W.mg_of X G (eqO_ok c)
theorem exm_at {x : Str} {y : PySem.W.Frag → Value} {b : Bool} (c : fExm x y b K = true) : PySem.W.exmOne K (.ref (ga K x)) (y K) = some b := of_decide_eq_true c
theorem kit_at {x : Str} {y : PySem.W.Frag → Value} (c : fKit x y K = true) : PySem.W.kitOne K (.ref (ga K x)) (y K) = some true := of_decide_eq_true c
end
end Py

set_option Elab.async false
set_option linter.all false
set_option maxRecDepth 100000
set_option maxHeartbeats 4000000
noncomputable section
namespace Law
open PySem L2 Py He
def top (i : Nat) : Stmt := PySem.Challenge.pw_fetchedwork_k00_whole_ratios_reckoned.main.body.getD i (.Pass ⟨0, 0, 0, 0⟩)
abbrev st_is_whole : Stmt := (top 7)
abbrev st_is_sequence : Stmt := (top 8)
abbrev st_is_ratio : Stmt := (top 9)
abbrev st_lowest_terms : Stmt := (top 10)
abbrev st_make_ratio : Stmt := (top 11)
abbrev st_add_ratios : Stmt := (top 12)
abbrev st_subtract_ratios : Stmt := (top 13)
abbrev st_multiply_ratios : Stmt := (top 14)
abbrev st_divide_ratios : Stmt := (top 15)
abbrev st_compare_ratios : Stmt := (top 16)
abbrev st_sum_ratios : Stmt := (top 17)
abbrev st_floor_ratio : Stmt := (top 18)
abbrev st_common_bottom : Stmt := (top 19)
abbrev st_whole_power : Stmt := (top 20)
abbrev st__law_hand : Stmt := (top 22)
abbrev st__law_mixed : Stmt := (top 23)
abbrev st__law_take : Stmt := (top 24)
abbrev st__law_power : Stmt := (top 25)
abbrev st__law_gcd : Stmt := (top 26)
abbrev st__law_ratio : Stmt := (top 27)
abbrev st__law_plus : Stmt := (top 28)
abbrev st__law_times : Stmt := (top 29)
abbrev st__law_below : Stmt := (top 30)
abbrev st__law_total : Stmt := (top 31)
abbrev st__law_tops : Stmt := (top 32)
abbrev st__law_seq : Stmt := (top 33)
abbrev st__law_int : Stmt := (top 34)
abbrev st__law_same : Stmt := (top 35)
abbrev st__law_sized : Stmt := (top 36)
abbrev st__law_odd : Stmt := (top 37)
abbrev st__law_yes : Stmt := (top 38)
abbrev st__law_family : Stmt := (top 39)
abbrev st__law_drawn : Stmt := (top 40)
abbrev st__law_is_due : Stmt := (top 41)
abbrev st__law_spoiled : Stmt := (top 42)
abbrev st__law_divided : Stmt := (top 43)
abbrev st__law_made : Stmt := (top 44)
abbrev st__law_made_due : Stmt := (top 45)
abbrev st__law_couples : Stmt := (top 46)
abbrev st__law_rows : Stmt := (top 47)
abbrev st__law_kinds : Stmt := (top 48)
abbrev st__law_makings : Stmt := (top 49)
abbrev st__law_powers : Stmt := (top 50)
abbrev st_law : Stmt := (top 51)
abbrev si_BadRatio : Stmt := inClass (top 3) 0
def fnL : List He.DefD := [⟨("is_whole", none), "is_whole", "is_whole", defArgs st_is_whole, defBody st_is_whole, defScope st_is_whole, [.non, .non], []⟩,
  ⟨("is_sequence", none), "is_sequence", "is_sequence", defArgs st_is_sequence, defBody st_is_sequence, defScope st_is_sequence, [], []⟩,
  ⟨("is_ratio", none), "is_ratio", "is_ratio", defArgs st_is_ratio, defBody st_is_ratio, defScope st_is_ratio, [], []⟩,
  ⟨("lowest_terms", none), "lowest_terms", "lowest_terms", defArgs st_lowest_terms, defBody st_lowest_terms, defScope st_lowest_terms, [], []⟩,
  ⟨("make_ratio", none), "make_ratio", "make_ratio", defArgs st_make_ratio, defBody st_make_ratio, defScope st_make_ratio, [(.int 1)], []⟩,
  ⟨("add_ratios", none), "add_ratios", "add_ratios", defArgs st_add_ratios, defBody st_add_ratios, defScope st_add_ratios, [], []⟩,
  ⟨("subtract_ratios", none), "subtract_ratios", "subtract_ratios", defArgs st_subtract_ratios, defBody st_subtract_ratios, defScope st_subtract_ratios, [], []⟩,
  ⟨("multiply_ratios", none), "multiply_ratios", "multiply_ratios", defArgs st_multiply_ratios, defBody st_multiply_ratios, defScope st_multiply_ratios, [], []⟩,
  ⟨("divide_ratios", none), "divide_ratios", "divide_ratios", defArgs st_divide_ratios, defBody st_divide_ratios, defScope st_divide_ratios, [], []⟩,
  ⟨("compare_ratios", none), "compare_ratios", "compare_ratios", defArgs st_compare_ratios, defBody st_compare_ratios, defScope st_compare_ratios, [], []⟩,
  ⟨("sum_ratios", none), "sum_ratios", "sum_ratios", defArgs st_sum_ratios, defBody st_sum_ratios, defScope st_sum_ratios, [], []⟩,
  ⟨("floor_ratio", none), "floor_ratio", "floor_ratio", defArgs st_floor_ratio, defBody st_floor_ratio, defScope st_floor_ratio, [], []⟩,
  ⟨("common_bottom", none), "common_bottom", "common_bottom", defArgs st_common_bottom, defBody st_common_bottom, defScope st_common_bottom, [], []⟩,
  ⟨("whole_power", none), "whole_power", "whole_power", defArgs st_whole_power, defBody st_whole_power, defScope st_whole_power, [], []⟩,
  ⟨("_law_hand", none), "_law_hand", "_law_hand", defArgs st__law_hand, defBody st__law_hand, defScope st__law_hand, [], []⟩,
  ⟨("_law_mixed", none), "_law_mixed", "_law_mixed", defArgs st__law_mixed, defBody st__law_mixed, defScope st__law_mixed, [], []⟩,
  ⟨("_law_take", none), "_law_take", "_law_take", defArgs st__law_take, defBody st__law_take, defScope st__law_take, [], []⟩,
  ⟨("_law_power", none), "_law_power", "_law_power", defArgs st__law_power, defBody st__law_power, defScope st__law_power, [], []⟩,
  ⟨("_law_gcd", none), "_law_gcd", "_law_gcd", defArgs st__law_gcd, defBody st__law_gcd, defScope st__law_gcd, [], []⟩,
  ⟨("_law_ratio", none), "_law_ratio", "_law_ratio", defArgs st__law_ratio, defBody st__law_ratio, defScope st__law_ratio, [], []⟩,
  ⟨("_law_plus", none), "_law_plus", "_law_plus", defArgs st__law_plus, defBody st__law_plus, defScope st__law_plus, [], []⟩,
  ⟨("_law_times", none), "_law_times", "_law_times", defArgs st__law_times, defBody st__law_times, defScope st__law_times, [], []⟩,
  ⟨("_law_below", none), "_law_below", "_law_below", defArgs st__law_below, defBody st__law_below, defScope st__law_below, [], []⟩,
  ⟨("_law_total", none), "_law_total", "_law_total", defArgs st__law_total, defBody st__law_total, defScope st__law_total, [], []⟩,
  ⟨("_law_tops", none), "_law_tops", "_law_tops", defArgs st__law_tops, defBody st__law_tops, defScope st__law_tops, [], []⟩,
  ⟨("_law_seq", none), "_law_seq", "_law_seq", defArgs st__law_seq, defBody st__law_seq, defScope st__law_seq, [], []⟩,
  ⟨("_law_int", none), "_law_int", "_law_int", defArgs st__law_int, defBody st__law_int, defScope st__law_int, [], []⟩,
  ⟨("_law_same", none), "_law_same", "_law_same", defArgs st__law_same, defBody st__law_same, defScope st__law_same, [], []⟩,
  ⟨("_law_sized", none), "_law_sized", "_law_sized", defArgs st__law_sized, defBody st__law_sized, defScope st__law_sized, [], []⟩,
  ⟨("_law_odd", none), "_law_odd", "_law_odd", defArgs st__law_odd, defBody st__law_odd, defScope st__law_odd, [], []⟩,
  ⟨("_law_yes", none), "_law_yes", "_law_yes", defArgs st__law_yes, defBody st__law_yes, defScope st__law_yes, [], []⟩,
  ⟨("_law_family", none), "_law_family", "_law_family", defArgs st__law_family, defBody st__law_family, defScope st__law_family, [], []⟩,
  ⟨("_law_drawn", none), "_law_drawn", "_law_drawn", defArgs st__law_drawn, defBody st__law_drawn, defScope st__law_drawn, [], []⟩,
  ⟨("_law_is_due", none), "_law_is_due", "_law_is_due", defArgs st__law_is_due, defBody st__law_is_due, defScope st__law_is_due, [], []⟩,
  ⟨("_law_spoiled", none), "_law_spoiled", "_law_spoiled", defArgs st__law_spoiled, defBody st__law_spoiled, defScope st__law_spoiled, [], []⟩,
  ⟨("_law_divided", none), "_law_divided", "_law_divided", defArgs st__law_divided, defBody st__law_divided, defScope st__law_divided, [], []⟩,
  ⟨("_law_made", none), "_law_made", "_law_made", defArgs st__law_made, defBody st__law_made, defScope st__law_made, [], []⟩,
  ⟨("_law_made_due", none), "_law_made_due", "_law_made_due", defArgs st__law_made_due, defBody st__law_made_due, defScope st__law_made_due, [], []⟩,
  ⟨("_law_couples", none), "_law_couples", "_law_couples", defArgs st__law_couples, defBody st__law_couples, defScope st__law_couples, [], []⟩,
  ⟨("_law_rows", none), "_law_rows", "_law_rows", defArgs st__law_rows, defBody st__law_rows, defScope st__law_rows, [], []⟩,
  ⟨("_law_kinds", none), "_law_kinds", "_law_kinds", defArgs st__law_kinds, defBody st__law_kinds, defScope st__law_kinds, [], []⟩,
  ⟨("_law_makings", none), "_law_makings", "_law_makings", defArgs st__law_makings, defBody st__law_makings, defScope st__law_makings, [], []⟩,
  ⟨("_law_powers", none), "_law_powers", "_law_powers", defArgs st__law_powers, defBody st__law_powers, defScope st__law_powers, [], []⟩,
  ⟨("law", none), "law", "law", defArgs st_law, defBody st_law, defScope st_law, [], []⟩,
  ⟨("BadRatio", some "__init__"), "__init__", "BadRatio.__init__", defArgs si_BadRatio, defBody si_BadRatio, defScope si_BadRatio, [], []⟩]
def faL : List Fb := [fGlo "BadRatio",
  fGlo "NestError",
  fKit "BadRatio" (fun K => .ref (He.ga K "NestError")),
  fKit "BadRatio" (fun K => .type "ValueError"),
  fExm "NestError" (fun K => .ref (He.ga K "BadRatio")) false,
  fExm "BadRatio" (fun K => .ref (He.ga K "BadRatio")) true,
  fGlo "ONE",
  fGlo "ZERO",
  fFree "ValueError",
  fFree "abs",
  fFree "bool",
  fBlt "gcd" "math.gcd",
  fFree "int",
  fFree "isinstance",
  fBlt "lcm" "math.lcm",
  fFree "len",
  fFree "list",
  fFree "range",
  fFree "tuple",
  fNo "BadRatio" "what",
  fDat "ONE" (.tup [(.int 1), (.int 1)]),
  fDat "ZERO" (.tup [(.int 0), (.int 1)]),
  fXf "BadRatio",
  fGlo "is_whole",
  fGlo "is_sequence",
  fGlo "is_ratio",
  fGlo "lowest_terms",
  fGlo "make_ratio",
  fGlo "add_ratios",
  fGlo "subtract_ratios",
  fGlo "multiply_ratios",
  fGlo "divide_ratios",
  fGlo "compare_ratios",
  fGlo "sum_ratios",
  fGlo "floor_ratio",
  fGlo "common_bottom",
  fGlo "whole_power",
  fGlo "_law_hand",
  fGlo "_law_mixed",
  fGlo "_law_take",
  fGlo "_law_power",
  fGlo "_law_gcd",
  fGlo "_law_ratio",
  fGlo "_law_plus",
  fGlo "_law_times",
  fGlo "_law_below",
  fGlo "_law_total",
  fGlo "_law_tops",
  fGlo "_law_seq",
  fGlo "_law_int",
  fGlo "_law_same",
  fGlo "_law_sized",
  fGlo "_law_odd",
  fGlo "_law_yes",
  fGlo "_law_family",
  fGlo "_law_drawn",
  fGlo "_law_is_due",
  fGlo "_law_spoiled",
  fGlo "_law_divided",
  fGlo "_law_made",
  fGlo "_law_made_due",
  fGlo "_law_couples",
  fGlo "_law_rows",
  fGlo "_law_kinds",
  fGlo "_law_makings",
  fGlo "_law_powers",
  fGlo "law",
  fExc "BadRatio",
  fIni "BadRatio"]
def looseL : List PySem.Str := (["NestError", "BadRatio", "ZERO", "ONE", "is_whole", "is_sequence", "is_ratio", "lowest_terms", "make_ratio", "add_ratios", "subtract_ratios", "multiply_ratios", "divide_ratios", "compare_ratios", "sum_ratios", "floor_ratio", "common_bottom", "whole_power", "_law_hand", "_law_mixed", "_law_take", "_law_power", "_law_gcd", "_law_ratio", "_law_plus", "_law_times", "_law_below", "_law_total", "_law_tops", "_law_seq"] : List PySem.Str) ++ (["_law_int", "_law_same", "_law_sized", "_law_odd", "_law_yes", "_law_family", "_law_drawn", "_law_is_due", "_law_spoiled", "_law_divided", "_law_made", "_law_made_due", "_law_couples", "_law_rows", "_law_kinds", "_law_makings", "_law_powers"] : List PySem.Str)
abbrev hR : PySem.W.OpenRow := PySem.W.OpenLaw.row PySem.Challenge.rw_fetchedwork_k00_whole_ratios_reckoned
theorem run (w : World) : HandSHeadRun.RunEqI hR (PySem.W.view hR.prog [0, 51]) (hkF 5 fnL faL) (obF 5 fnL faL) 6000 looseL w := by
  unfold HandSHeadRun.RunEqI; kernel_rfl
set_option maxHeartbeats 0 in
theorem holds_of (hc : PySem.W.WalkO (PySem.W.view hR.prog [0, 51]) looseL (PySem.W.XL (PySem.W.view hR.prog [0, 51]) []) (hkF 5 fnL faL).says hR.toRowW (HandSHeadRun.topDef hR.prog 51) [] fun f vs => PySem.call f vs) : PySem.Challenge.rw_fetchedwork_k00_whole_ratios_reckoned.Holds := by
  w_on; o_law
  refine HandSHeadRun.head_imp (r := PySem.W.OpenLaw.row PySem.Challenge.rw_fetchedwork_k00_whole_ratios_reckoned) (q := PySem.W.view (PySem.W.OpenLaw.row PySem.Challenge.rw_fetchedwork_k00_whole_ratios_reckoned).prog [0, 51]) (H := hkF 5 fnL faL) (ob := obF 5 fnL faL) (M := 6000) (loose := looseL) (d := HandSHeadRun.topDef (PySem.W.OpenLaw.row PySem.Challenge.rw_fetchedwork_k00_whole_ratios_reckoned).prog 51) (kwd := []) (obF_eq 5 fnL faL)
    run (by kernel_rfl) (by kernel_rfl) (by kernel_rfl) (by rfl) (by first | assumption | decide +kernel) (by decide +kernel) ⟨rfl, rfl, rfl, rfl, rfl, by decide +kernel⟩ ?hw hc
  case hw => w_witness2
end Law

set_option Elab.async false
set_option linter.all false
set_option maxRecDepth 100000
set_option maxHeartbeats 2000000
namespace Py
open PySem L2

/-! ## 3. Expressions -/
def eC (d : D) : Env → Rs D := fun ρ => .ok d ρ
def eVar (i : Nat) : Env → Rs D := fun ρ => match ρ[i]? with
  | some (some d) => .ok d ρ
  | _ => .stuck
def eBin (f : D → D → Option D) (ma mb : Env → Rs D) : Env → Rs D := fun ρ => (ma ρ).bind fun a ρ1 => (mb ρ1).bind fun b ρ2 => Rs.ofOpt (f a b) ρ2
def eUn (f : D → Option D) (ma : Env → Rs D) : Env → Rs D := fun ρ => (ma ρ).bind fun a ρ1 => Rs.ofOpt (f a) ρ1
def aNil : Env → Rs (List D) := fun ρ => .ok [] ρ
def aCons (m : Env → Rs D) (r : Env → Rs (List D)) : Env → Rs (List D) := fun ρ => (m ρ).bind fun a ρ1 => (r ρ1).bind fun as ρ2 => .ok (a :: as) ρ2
def aF (f : List D → Option D) (r : Env → Rs (List D)) : Env → Rs D := fun ρ => (r ρ).bind fun as ρ1 => Rs.ofOpt (f as) ρ1

section
variable {Γ : Gm} {fr : Frm} {σ : L2.St} {ρ : Env} {G G' : Hp} {S S' : Addr → Prop} {ta tb te : TE} {ma mb m : Env → Rs D} {i : Nat}

theorem ev_c {v : V} {d : D} (h : ∀ H, IsD Γ H v d) : EV Γ fr (tC v) (eC d) := fun σ ρ G S c Q p => PostG.give p (Same.refl _) c (h _)
theorem ev_int (i : Int) : EV Γ fr (tC (.int i)) (eC (.int i)) := ev_c fun _ => .int i
theorem ev_bl (i : Bool) : EV Γ fr (tC (.bl i)) (eC (.bl i)) := ev_c fun _ => .bl i
theorem ev_str (i : Str) : EV Γ fr (tC (.str i)) (eC (.str i)) := ev_c fun _ => .str i
theorem ev_non : EV Γ fr (tC .non) (eC .non) := ev_c fun _ => .non
theorem ev_var (hi : fr.notOwn i = true := by rfl) : EV Γ fr (tVar i) (eVar i) := fun σ ρ G S c Q p => by
  unfold eVar at p
  generalize e : ρ[i]? = o at p
  cases o with
  | none => exact p.elim
  | some o =>
    cases o with
    | none => exact p.elim
    | some d =>
      obtain ⟨v, h1, h2⟩ := c.sh i d (nown hi) e
      exact ⟨v, h1, PostG.give p (Same.refl _) c h2⟩

/-- a two-place operation on values does what f does on data -/
def OpD (Γ : Gm) (r : R2) (f : D → D → Option D) : Prop := ∀ (G : Hp) (S : Addr → Prop) (x y : V) (dx dy dz : D), (∀ a, S a → ∃ o, G a = some o) → IsD Γ (hide S G) x dx → IsD Γ (hide S G) y dy → f dx dy = some dz → ∀ Q : VK,
  (∀ v G', Same G G' → IsD Γ (hide S G') v dz → Q v G') → r x y G Q
theorem ev_op {r : R2} {f : D → D → Option D} (hr : OpD Γ r f) (ha : EV Γ fr ta ma) (hb : EV Γ fr tb mb) : EV Γ fr (tOp r ta tb) (eBin f ma mb) := fun σ ρ G S c Q p => by
  refine ha.step c p fun dx ρ1 x G1 S1 _ c1 hx p1 => ?_
  refine hb.step c1 p1 fun dy ρ2 y G2 S2 e2 c2 hy p2 => ?_
  obtain ⟨dz, hf, p3⟩ := p2.giveO
  exact hr G2 S2 x y dx dy dz c2.dom (hx.le e2) hy hf Q fun v G3 e3 hv => p3.give (hide_ext e3) (c2.ext e3) hv
def UnD (Γ : Gm) (r : V → Hp → VK → Prop) (f : D → Option D) : Prop := ∀ (G : Hp) (S : Addr → Prop) (x : V) (dx dz : D), (∀ a, S a → ∃ o, G a = some o) → IsD Γ (hide S G) x dx → f dx = some dz → ∀ Q : VK,
  (∀ v G', Same G G' → IsD Γ (hide S G') v dz → Q v G') → r x G Q
theorem ev_un {r : V → Hp → VK → Prop} {f : D → Option D} (hr : UnD Γ r f) (ha : EV Γ fr ta ma) : EV Γ fr (tUn r ta) (eUn f ma) := fun σ ρ G S c Q p => by
  refine ha.step c p fun dx ρ1 x G1 S1 _ c1 hx p1 => ?_
  obtain ⟨dz, hf, p3⟩ := p1.giveO
  exact hr G1 S1 x dx dz c1.dom hx hf Q fun v G3 e3 hv => p3.give (hide_ext e3) (c1.ext e3) hv
theorem ea_nil : EA Γ fr tNil aNil := fun σ ρ G S c Q p => PostG.give p (Same.refl _) c .nil
theorem ea_cons {t : TA} {r : Env → Rs (List D)} (ha : EV Γ fr te m) (hb : EA Γ fr t r) : EA Γ fr (tCons te t) (aCons m r) := fun σ ρ G S c Q p => by
  refine ha.step c p fun dx ρ1 x G1 S1 _ c1 hx p1 => ?_
  refine hb.step c1 p1 fun dy ρ2 y G2 S2 e2 c2 hy p2 => ?_
  exact p2.give (Same.refl _) c2 (.cons (hx.le e2) hy)
/-- a built-in called -/
def CaD (Γ : Gm) (r : List V → Hp → VK → Prop) (f : List D → Option D) : Prop := ∀ (G : Hp) (S : Addr → Prop) (xs : List V) (ds : List D) (dz : D), (∀ a, S a → ∃ o, G a = some o) → IsDs Γ (hide S G) xs ds → f ds = some dz → ∀ Q : VK,
  (∀ v G', Same G G' → IsD Γ (hide S G') v dz → Q v G') → r xs G Q
theorem ev_cb {t : TA} {r : List V → Hp → VK → Prop} {f : List D → Option D} {ma : Env → Rs (List D)} (hr : CaD Γ r f) (ha : EA Γ fr t ma) : EV Γ fr (tCB r t) (aF f ma) := fun σ ρ G S c Q p => by
  refine ha.step c p fun dx ρ1 x G1 S1 _ c1 hx p1 => ?_
  obtain ⟨dz, hf, p3⟩ := p1.giveO
  exact hr G1 S1 x dx dz c1.dom hx hf Q fun v G3 e3 hv => p3.give (hide_ext e3) (c1.ext e3) hv

def dIsN : D → Option D
  | .non => some (.bl true)
  | _ => some (.bl false)
def dNotN : D → Option D
  | .non => some (.bl false)
  | _ => some (.bl true)
/-! ### displays -/
def dTup (l : List D) : Option D := if l.length ≤ 1000000 then some (.tup l) else none
def dLst (l : List D) : Option D := if l.length ≤ 1000000 then some (.lst l) else none
theorem size_ok {n : Nat} (h : n ≤ 1000000) : n ≤ sizeLine := Nat.le_trans h (by decide)
theorem dTup_of {l : List D} {d : D} (h : dTup l = some d) : l.length ≤ 1000000 ∧ d = .tup l := by
  unfold dTup at h
  split at h
  · rename_i hl; exact ⟨hl, (Option.some.inj h).symm⟩
  · cases h
theorem dLst_of {l : List D} {d : D} (h : dLst l = some d) : l.length ≤ 1000000 ∧ d = .lst l := by
  unfold dLst at h
  split at h
  · rename_i hl; exact ⟨hl, (Option.some.inj h).symm⟩
  · cases h
theorem ev_tup {t : TA} {ma : Env → Rs (List D)} (ha : EA Γ fr t ma) : EV Γ fr (tTup t) (aF dTup ma) := fun σ ρ G S c Q p => by
  refine ha.step c p fun dx ρ1 x G1 S1 _ c1 hx p1 => ?_
  obtain ⟨dz, hf, p3⟩ := p1.giveO
  obtain ⟨hl, rfl⟩ := dTup_of hf
  refine ⟨size_ok (by rw [hx.length]; exact hl), fun q hq => ?_⟩
  exact p3.give (hide_ext (same_upd hq)) (c1.ext (same_upd hq)) (.tup (SqT.of (c1.hideNew hq)) (hx.le (hide_ext (same_upd hq))))
theorem ev_lst {t : TA} {ma : Env → Rs (List D)} (ha : EA Γ fr t ma) : EV Γ fr (tLst t) (aF dLst ma) := fun σ ρ G S c Q p => by
  refine ha.step c p fun dx ρ1 x G1 S1 _ c1 hx p1 => ?_
  obtain ⟨dz, hf, p3⟩ := p1.giveO
  obtain ⟨hl, rfl⟩ := dLst_of hf
  refine ⟨size_ok (by rw [hx.length]; exact hl), fun q hq => ?_⟩
  exact p3.give (hide_ext (same_upd hq)) (c1.ext (same_upd hq)) (.lst (c1.hideNew hq) (hx.le (hide_ext (same_upd hq))))

/-! ### tests and truth -/
def tfB (m : Env → Rs D) : Env → Rs Bool := fun ρ => (m ρ).bind fun d ρ1 => match d with
  | .bl b => .ok b ρ1
  | _ => .stuck
def truthD : D → Option Bool
  | .non => some false
  | .bl b => some b
  | .int i => some (i != 0)
  | .str s => if s.length ≤ 1000000 then some ((s.length : Int) != 0) else none
  | .tup l => some !l.isEmpty
  | .lst l => some !l.isEmpty
  | _ => none
def tfT (m : Env → Rs D) : Env → Rs Bool := fun ρ => (m ρ).bind fun d ρ1 => Rs.ofOpt (truthD d) ρ1
def tfAnd (a b : Env → Rs Bool) : Env → Rs Bool := fun ρ => (a ρ).bind fun x ρ1 => if x = true then b ρ1 else .ok false ρ1
def tfOr (a b : Env → Rs Bool) : Env → Rs Bool := fun ρ => (a ρ).bind fun x ρ1 => if x = true then .ok true ρ1 else b ρ1
def tfNot (a : Env → Rs Bool) : Env → Rs Bool := fun ρ => (a ρ).bind fun x ρ1 => .ok (!x) ρ1
theorem et_test (h : EV Γ fr te m) : ET Γ fr (tTest te) (tfB m) := fun σ ρ G S c Q p => by
  refine h.step c p fun d ρ1 x G1 S1 _ c1 hx p1 => ?_
  cases hx with
  | bl b => exact ⟨b, rfl, p1.give (Same.refl _) c1 rfl⟩
  | _ => exact p1.elim
theorem et_B (h : EV Γ fr te m) : ET Γ fr (tB te) (tfB m) := fun σ ρ G S c Q p => by
  refine h.step c p fun d ρ1 x G1 S1 _ c1 hx p1 => ?_
  cases hx with
  | bl b => exact ⟨b, rfl, p1.give (Same.refl _) c1 rfl⟩
  | _ => exact p1.elim
theorem isEmpty_len {α β : Type} {l : List α} {k : List β} (h : l.length = k.length) : l.isEmpty = k.isEmpty := by
  cases l with
  | nil => cases k with
    | nil => rfl
    | cons => simp at h
  | cons => cases k with
    | nil => simp at h
    | cons => rfl
theorem truV_of {H : Hp} {x : V} {d : D} {b : Bool} (h : IsD Γ H x d) (e : truthD d = some b) {G : Hp} (le : Same H G) : TruV Γ.K x G b := by
  cases h with
  | non => exact (Option.some.inj e).symm
  | bl b => exact (Option.some.inj e).symm
  | int i => exact (Option.some.inj e).symm
  | str s =>
    have e' : (if s.length ≤ 1000000 then some ((s.length : Int) != 0) else none) = some b := e
    by_cases hl : s.length ≤ 1000000
    · rw [if_pos hl] at e'
      exact ⟨size_ok hl, (Option.some.inj e').symm⟩
    · rw [if_neg hl] at e'
      cases e'
  | tup h1 h2 =>
    refine .inr (.inl ⟨_, sqT_mono le h1, ?_⟩)
    rw [isEmpty_len h2.length]
    exact (Option.some.inj e).symm
  | lst h1 h2 =>
    refine .inl ⟨_, SqL.of (le _ _ h1), ?_⟩
    rw [isEmpty_len h2.length]
    exact (Option.some.inj e).symm
  | scr _ => cases e
  | ins _ _ _ => cases e
theorem et_tru (h : EV Γ fr te m) : ET Γ fr (fun σ H Q => te σ H fun x H' => ∃ k, TruV Γ.K x H' k ∧ Q k H') (tfT m) := fun σ ρ G S c Q p => by
  refine h.step c p fun d ρ1 x G1 S1 _ c1 hx p1 => ?_
  obtain ⟨b, hf, p3⟩ := p1.giveO
  exact ⟨b, truV_of hx hf hide_le, p3.give (Same.refl _) c1 rfl⟩
variable {tt tu : TT} {mt mu : Env → Rs Bool}
theorem et_and (h1 : ET Γ fr tt mt) (h2 : ET Γ fr tu mu) : ET Γ fr (tAnd tt tu) (tfAnd mt mu) := fun σ ρ G S c Q p => by
  refine h1.step c p fun d ρ1 x G1 S1 _ c1 hx p1 => ?_
  subst hx
  cases x with
  | true => exact h2 σ ρ1 G1 S1 c1 Q p1
  | false => exact p1.give (Same.refl _) c1 rfl
theorem et_or (h1 : ET Γ fr tt mt) (h2 : ET Γ fr tu mu) : ET Γ fr (tOr tt tu) (tfOr mt mu) := fun σ ρ G S c Q p => by
  refine h1.step c p fun d ρ1 x G1 S1 _ c1 hx p1 => ?_
  subst hx
  cases x with
  | true => exact p1.give (Same.refl _) c1 rfl
  | false => exact h2 σ ρ1 G1 S1 c1 Q p1
theorem et_not (h1 : ET Γ fr tt mt) : ET Γ fr (tNot tt) (tfNot mt) := fun σ ρ G S c Q p => by
  refine h1.step c p fun d ρ1 x G1 S1 _ c1 hx p1 => ?_
  subst hx
  exact p1.give (Same.refl _) c1 rfl
/-- and, or, not as values: truth values -/
def eAnd (a b : Env → Rs D) : Env → Rs D := fun ρ => (a ρ).bind fun x ρ1 => match x with
  | .bl true => b ρ1
  | .bl false => .ok (.bl false) ρ1
  | _ => .stuck
def eOr (a b : Env → Rs D) : Env → Rs D := fun ρ => (a ρ).bind fun x ρ1 => match x with
  | .bl true => .ok (.bl true) ρ1
  | .bl false => b ρ1
  | _ => .stuck
def eNot (a : Env → Rs D) : Env → Rs D := fun ρ => (a ρ).bind fun x ρ1 => match x with
  | .bl b => .ok (.bl !b) ρ1
  | _ => .stuck
def eIf (t : Env → Rs Bool) (a b : Env → Rs D) : Env → Rs D := fun ρ => (t ρ).bind fun x ρ1 => if x = true then a ρ1 else b ρ1
theorem ev_andV (h1 : EV Γ fr ta ma) (h2 : EV Γ fr tb mb) : EV Γ fr (tAndV ta tb) (eAnd ma mb) := fun σ ρ G S c Q p => by
  refine h1.step c p fun d ρ1 x G1 S1 _ c1 hx p1 => ?_
  cases hx with
  | bl b => cases b with
    | true => exact ⟨true, rfl, h2 σ ρ1 G1 S1 c1 Q p1⟩
    | false => exact ⟨false, rfl, p1.give (Same.refl _) c1 (.bl false)⟩
  | _ => exact p1.elim
theorem ev_orV (h1 : EV Γ fr ta ma) (h2 : EV Γ fr tb mb) : EV Γ fr (tOrV ta tb) (eOr ma mb) := fun σ ρ G S c Q p => by
  refine h1.step c p fun d ρ1 x G1 S1 _ c1 hx p1 => ?_
  cases hx with
  | bl b => cases b with
    | true => exact ⟨true, rfl, p1.give (Same.refl _) c1 (.bl true)⟩
    | false => exact ⟨false, rfl, h2 σ ρ1 G1 S1 c1 Q p1⟩
  | _ => exact p1.elim
theorem ev_notV (h1 : EV Γ fr ta ma) : EV Γ fr (tNotV ta) (eNot ma) := fun σ ρ G S c Q p => by
  refine h1.step c p fun d ρ1 x G1 S1 _ c1 hx p1 => ?_
  cases hx with
  | bl b => exact ⟨b, rfl, p1.give (Same.refl _) c1 (.bl !b)⟩
  | _ => exact p1.elim
theorem ev_if (h : ET Γ fr tt mt) (h1 : EV Γ fr ta ma) (h2 : EV Γ fr tb mb) : EV Γ fr (tIf tt ta tb) (eIf mt ma mb) := fun σ ρ G S c Q p => by
  refine h.step c p fun d ρ1 x G1 S1 _ c1 hx p1 => ?_
  subst hx
  cases x with
  | true => exact h1 σ ρ1 G1 S1 c1 Q p1
  | false => exact h2 σ ρ1 G1 S1 c1 Q p1
theorem ev_isN (h1 : EV Γ fr ta ma) : EV Γ fr (tIsN ta) (eUn dIsN ma) := fun σ ρ G S c Q p => by
  refine h1.step c p fun d ρ1 x G1 S1 _ c1 hx p1 => ?_
  cases hx with
  | non => exact PostG.give (d := D.bl true) p1 (Same.refl _) c1 (.bl true)
  | _ => exact PostG.give (d := D.bl false) p1 (Same.refl _) c1 (.bl false)
theorem ev_notN (h1 : EV Γ fr ta ma) : EV Γ fr (tNotN ta) (eUn dNotN ma) := fun σ ρ G S c Q p => by
  refine h1.step c p fun d ρ1 x G1 S1 _ c1 hx p1 => ?_
  cases hx with
  | non => exact PostG.give (d := D.bl false) p1 (Same.refl _) c1 (.bl false)
  | _ => exact PostG.give (d := D.bl true) p1 (Same.refl _) c1 (.bl true)
end
end Py

set_option Elab.async false
set_option linter.all false
set_option maxRecDepth 100000
set_option maxHeartbeats 2000000
namespace Py
open PySem L2

/-! ## 4. Operators -/
theorem OpR_or {X : Cx} {f : Value → Value → Sem Value} {r r' : R2} (h : OpR X f r) (h' : OpR X f r') : OpR X f (fun x y H Q => r x y H Q ∨ r' x y H Q) := by
  intro pins s σ H x y v u Q I rx ry q
  rcases q with q | q
  · exact h pins s σ H x y v u Q I rx ry q
  · exact h' pins s σ H x y v u Q I rx ry q
def rOr (r r' : R2) : R2 := fun x y H Q => r x y H Q ∨ r' x y H Q
def rAddX (K : PySem.W.Frag) : R2 := rOr (rI0 fun i j => .int (i + j)) (rOr rCat (rOr (rCatA K) (fun x y H Q => ∃ i j, x = .str i ∧ y = .str j ∧ i.length + j.length ≤ sizeLine ∧ Q (.str (i ++ j)) H)))
theorem opx_add {X : Cx} : OpR X (binaryOp .Add) (rAddX X.K) := OpR_or op_add (OpR_or op_cat (OpR_or op_catA op_add_str))
def bits (n : Int) : Nat := n.natAbs.log2
def rMulX : R2 := rOr (rI CMulW fun i j => .int (i * j)) rRep
theorem opx_mul {X : Cx} : OpR X (binaryOp .Mult) rMulX := OpR_or op_mulW op_rep
def CDivX (_ j : Int) : Prop := j ≠ 0 ∧ bits j < 9000
open PyProof.Rows in
theorem opx_fdiv {X : Cx} : OpR X (binaryOp .FloorDiv) (rI CDivX fun i j => .int (i.fdiv j)) := opI fun i j _ _ _ _ _ hc q => floordiv_int hc.1 q (.inl (PyProof.noPylong_of_log2 hc.2))
def CPowX (i j : Int) : Prop := 0 ≤ j ∧ j ≤ 1000000 ∧ (i.natAbs < 2 ^ 64 ∨ (Builtin.Int.intBits i : Int) * j ≤ 2 ^ 27)
open PyProof.Rows in
theorem opx_pow {X : Cx} : OpR X (binaryOp .Pow) (rI CPowX fun i j => .int (i ^ j.toNat)) := opI fun i j _ _ _ _ _ hc q => by
  obtain ⟨h1, h2, h3 | h3⟩ := hc
  · exact pow_int_small h1 h2 h3 q
  · exact pow_int h1 h3 q

def dAdd : D → D → Option D
  | .int i, .int j => some (.int (i + j))
  | .lst l, .lst m => if l.length + m.length ≤ 1000000 then some (.lst (l ++ m)) else none
  | .tup l, .tup m => if l.length + m.length ≤ 1000000 then some (.tup (l ++ m)) else none
  | .str x, .str y => if x.length + y.length ≤ 1000000 then some (.str (x ++ y)) else none
  | _, _ => none
def dSub : D → D → Option D
  | .int i, .int j => some (.int (i - j))
  | _, _ => none
def dMul : D → D → Option D
  | .int i, .int j => if bits i + bits j < 1000000 then some (.int (i * j)) else none
  | .lst l, .int k => if k < 1000000 ∧ -1000000 < k ∧ l.length * k.toNat ≤ 1000000 then some (.lst (List.replicate k.toNat l).flatten) else none
  | _, _ => none
def dFdiv : D → D → Option D
  | .int i, .int j => if j ≠ 0 ∧ bits j < 9000 then some (.int (i.fdiv j)) else none
  | _, _ => none
def dMod : D → D → Option D
  | .int i, .int j => if j ≠ 0 then some (.int (i.fmod j)) else none
  | _, _ => none
def dPow : D → D → Option D
  | .int i, .int j => if 0 ≤ j ∧ j ≤ 1000000 ∧ i.natAbs < 2 ^ 64 then some (.int (i ^ j.toNat)) else none
  | _, _ => none
def dBAnd : D → D → Option D
  | .int i, .int j => some (.int (Builtin.bitAnd i j))
  | _, _ => none
def dBOr : D → D → Option D
  | .int i, .int j => some (.int (Builtin.bitOr i j))
  | _, _ => none
def dShr : D → D → Option D
  | .int i, .int j => if 0 ≤ j then some (.int (i / 2 ^ j.toNat)) else none
  | _, _ => none
def dShl : D → D → Option D
  | .int i, .int j => if 0 ≤ j ∧ j ≤ 1000000 ∧ i.natAbs < 2 ^ 64 then some (.int (i * 2 ^ j.toNat)) else none
  | _, _ => none
def dNeg : D → Option D
  | .int i => some (.int (-i))
  | _ => none
def dLt : D → D → Option D
  | .int i, .int j => some (.bl (decide (i < j)))
  | _, _ => none
def dLe : D → D → Option D
  | .int i, .int j => some (.bl (decide (i ≤ j)))
  | _, _ => none
def dGt : D → D → Option D
  | .int i, .int j => some (.bl (decide (j < i)))
  | _, _ => none
def dGe : D → D → Option D
  | .int i, .int j => some (.bl (decide (j ≤ i)))
  | _, _ => none

section
variable {Γ : Gm}
theorem opD_I0 {g : Int → Int → V} {f : D → D → Option D} {f' : Int → Int → D} (h : ∀ a b d, f a b = some d → ∃ i j, a = .int i ∧ b = .int j ∧ d = f' i j) (hg : ∀ i j H, IsD Γ H (g i j) (f' i j)) : OpD Γ (rI0 g) f := fun G S x y dx dy dz dom hx hy e Q q => by
  obtain ⟨i, j, rfl, rfl, rfl⟩ := h _ _ _ e
  cases hx
  cases hy
  exact ⟨i, j, rfl, rfl, q _ G (Same.refl _) (hg _ _ _)⟩
theorem opD_I {C : Int → Int → Prop} {g : Int → Int → V} {f : D → D → Option D} {f' : Int → Int → D} (h : ∀ a b d, f a b = some d → ∃ i j, a = .int i ∧ b = .int j ∧ C i j ∧ d = f' i j) (hg : ∀ i j H, IsD Γ H (g i j) (f' i j)) : OpD Γ (rI C g) f := fun G S x y dx dy dz dom hx hy e Q q => by
  obtain ⟨i, j, rfl, rfl, c, rfl⟩ := h _ _ _ e
  cases hx
  cases hy
  exact ⟨i, j, rfl, rfl, c, q _ G (Same.refl _) (hg _ _ _)⟩
theorem opd_sub : OpD Γ (rI0 fun i j => .int (i - j)) dSub := opD_I0 (f' := fun i j => .int (i - j)) (fun a b d h => by
  cases a <;> cases b <;> first | exact ⟨_, _, rfl, rfl, (Option.some.inj h).symm⟩ | cases h) fun i j H => .int _
theorem opd_lt : OpD Γ (rI0 fun i j => .bl (decide (i < j))) dLt := opD_I0 (f' := fun i j => .bl (decide (i < j))) (fun a b d h => by
  cases a <;> cases b <;> first | exact ⟨_, _, rfl, rfl, (Option.some.inj h).symm⟩ | cases h) fun i j H => .bl _
theorem opd_le : OpD Γ (rI0 fun i j => .bl (decide (i ≤ j))) dLe := opD_I0 (f' := fun i j => .bl (decide (i ≤ j))) (fun a b d h => by
  cases a <;> cases b <;> first | exact ⟨_, _, rfl, rfl, (Option.some.inj h).symm⟩ | cases h) fun i j H => .bl _
theorem opd_gt : OpD Γ (rI0 fun i j => .bl (decide (j < i))) dGt := opD_I0 (f' := fun i j => .bl (decide (j < i))) (fun a b d h => by
  cases a <;> cases b <;> first | exact ⟨_, _, rfl, rfl, (Option.some.inj h).symm⟩ | cases h) fun i j H => .bl _
theorem opd_ge : OpD Γ (rI0 fun i j => .bl (decide (j ≤ i))) dGe := opD_I0 (f' := fun i j => .bl (decide (j ≤ i))) (fun a b d h => by
  cases a <;> cases b <;> first | exact ⟨_, _, rfl, rfl, (Option.some.inj h).symm⟩ | cases h) fun i j H => .bl _
theorem opd_band : OpD Γ (rI0 fun i j => .int (Builtin.bitAnd i j)) dBAnd := opD_I0 (f' := fun i j => .int (Builtin.bitAnd i j)) (fun a b d h => by
  cases a <;> cases b <;> first | exact ⟨_, _, rfl, rfl, (Option.some.inj h).symm⟩ | cases h) fun i j H => .int _
theorem opd_bor : OpD Γ (rI0 fun i j => .int (Builtin.bitOr i j)) dBOr := opD_I0 (f' := fun i j => .int (Builtin.bitOr i j)) (fun a b d h => by
  cases a <;> cases b <;> first | exact ⟨_, _, rfl, rfl, (Option.some.inj h).symm⟩ | cases h) fun i j H => .int _
theorem ite_some {α : Type} {c : Prop} [Decidable c] {a d : α} (h : (if c then some a else none) = some d) : c ∧ d = a := by
  by_cases hc : c
  · rw [if_pos hc] at h
    exact ⟨hc, (Option.some.inj h).symm⟩
  · rw [if_neg hc] at h
    cases h
theorem opd_fdiv : OpD Γ (rI CDivX fun i j => .int (i.fdiv j)) dFdiv := opD_I (f' := fun i j => .int (i.fdiv j)) (fun a b d h => by
  cases a <;> cases b <;> first | exact ⟨_, _, rfl, rfl, (ite_some h).1, (ite_some h).2⟩ | cases h) fun i j H => .int _
theorem opd_mod : OpD Γ (rI (fun _ j => j ≠ 0) fun i j => .int (i.fmod j)) dMod := opD_I (f' := fun i j => .int (i.fmod j)) (fun a b d h => by
  cases a <;> cases b <;> first | exact ⟨_, _, rfl, rfl, (ite_some h).1, (ite_some h).2⟩ | cases h) fun i j H => .int _
theorem opd_pow : OpD Γ (rI CPowX fun i j => .int (i ^ j.toNat)) dPow := opD_I (f' := fun i j => .int (i ^ j.toNat)) (fun a b d h => by
  cases a <;> cases b <;> first | exact ⟨_, _, rfl, rfl, ⟨(ite_some h).1.1, (ite_some h).1.2.1, .inl (ite_some h).1.2.2⟩, (ite_some h).2⟩ | cases h) fun i j H => .int _
theorem opd_shr : OpD Γ (rI (fun _ j => 0 ≤ j) fun i j => .int (i / 2 ^ j.toNat)) dShr := opD_I (f' := fun i j => .int (i / 2 ^ j.toNat)) (fun a b d h => by
  cases a <;> cases b <;> first | exact ⟨_, _, rfl, rfl, (ite_some h).1, (ite_some h).2⟩ | cases h) fun i j H => .int _
theorem opd_shl : OpD Γ (rI CPow fun i j => .int (i * 2 ^ j.toNat)) dShl := opD_I (f' := fun i j => .int (i * 2 ^ j.toNat)) (fun a b d h => by
  cases a <;> cases b <;> first | exact ⟨_, _, rfl, rfl, (ite_some h).1, (ite_some h).2⟩ | cases h) fun i j H => .int _
theorem und_neg : UnD Γ (rU fun i => .int (-i)) dNeg := fun G S x dx dz dom hx e Q q => by
  cases hx with
  | int i =>
    cases e
    exact ⟨_, rfl, q _ G (Same.refl _) (.int _)⟩
  | _ => cases e

theorem opd_add : OpD Γ (rAddX Γ.K) dAdd := fun G S x y dx dy dz dom hx hy e Q q => by
  have fresh : ∀ {p : Addr}, G p = none → ¬ S p := fun {p} h z => by
    obtain ⟨o, e⟩ := dom p z
    rw [h] at e; cases e
  cases hx with
  | int i =>
    cases hy with
    | int j =>
      cases e
      exact .inl ⟨_, _, rfl, rfl, q _ G (Same.refl _) (.int _)⟩
    | _ => cases e
  | str i =>
    cases hy with
    | str j =>
      obtain ⟨h1, rfl⟩ := ite_some e
      exact .inr (.inr (.inr ⟨_, _, rfl, rfl, size_ok h1, q _ G (Same.refl _) (.str _)⟩))
    | _ => cases e
  | lst hx1 hx2 =>
    cases hy with
    | lst hy1 hy2 =>
      obtain ⟨h1, rfl⟩ := ite_some e
      refine .inr (.inl ⟨_, _, _, _, rfl, rfl, hide_le _ _ hx1, hide_le _ _ hy1, size_ok (by rw [hx2.length, hy2.length]; exact h1), fun p hp => ?_⟩)
      exact q _ _ (same_upd hp) (.lst (hide_of (fresh hp) upd_same) ((hx2.append hy2).le (hide_ext (same_upd hp))))
    | _ => cases e
  | tup hx1 hx2 =>
    cases hy with
    | tup hy1 hy2 =>
      obtain ⟨h1, rfl⟩ := ite_some e
      have t1 := sqT_mono hide_le hx1
      have t2 := sqT_mono hide_le hy1
      refine .inr (.inr (.inl ⟨_, _, _, _, rfl, rfl, t1, t2, size_ok (by rw [hx2.length, hy2.length]; exact h1), fun h0 => ?_, fun h0 h00 => ?_, fun h0 h00 p hp => ?_⟩))
      · subst h0
        cases hx2
        exact q _ G (Same.refl _) (.tup hy1 hy2)
      · subst h00
        cases hy2
        exact q _ G (Same.refl _) (by rw [List.append_nil]; exact .tup hx1 hx2)
      · exact q _ _ (same_upd hp) (.tup (SqT.of (hide_of (fresh hp) upd_same)) ((hx2.append hy2).le (hide_ext (same_upd hp))))
    | _ => cases e
  | _ => cases e
theorem isDs_rep {H : Hp} {xs : List V} {l : List D} (h : IsDs Γ H xs l) : ∀ n : Nat, IsDs Γ H (List.replicate n xs).flatten (List.replicate n l).flatten
  | 0 => .nil
  | n + 1 => by
    rw [List.replicate_succ, List.replicate_succ, List.flatten_cons, List.flatten_cons]
    exact h.append (isDs_rep h n)
theorem opd_mul : OpD Γ rMulX dMul := fun G S x y dx dy dz dom hx hy e Q q => by
  have fresh : ∀ {p : Addr}, G p = none → ¬ S p := fun {p} h z => by
    obtain ⟨o, e⟩ := dom p z
    rw [h] at e; cases e
  cases hx with
  | int i =>
    cases hy with
    | int j =>
      obtain ⟨h1, rfl⟩ := ite_some e
      exact .inl ⟨_, _, rfl, rfl, h1, q _ G (Same.refl _) (.int _)⟩
    | _ => cases e
  | lst hx1 hx2 =>
    cases hy with
    | int k =>
      obtain ⟨⟨h1, h2, h3⟩, rfl⟩ := ite_some e
      refine .inr ⟨_, _, _, rfl, rfl, hide_le _ _ hx1, by omega, by omega, size_ok (by rw [hx2.length]; exact h3), fun p hp => ?_⟩
      exact q _ _ (same_upd hp) (.lst (hide_of (fresh hp) upd_same) ((isDs_rep hx2 _).le (hide_ext (same_upd hp))))
    | _ => cases e
  | _ => cases e

/-! ### items and slices -/
def dIx : D → D → Option D
  | .lst l, .int i => atI l i
  | .tup l, .int i => atI l i
  | .str s, .int i => if s.length ≤ 1000000 then (atI s.cps.toList i).map fun c => .str ⟨#[c]⟩ else none
  | _, _ => none
theorem atI_rel {H : Hp} {xs : List V} {l : List D} {i : Int} {d : D} (h : IsDs Γ H xs l) (e : atI l i = some d) : ∃ v, atI xs i = some v ∧ IsD Γ H v d := by
  unfold atI at e ⊢
  rw [h.length]
  cases hj : ixN l.length i with
  | none => rw [hj] at e; cases e
  | some j =>
    rw [hj] at e
    exact h.get (i := j) e
theorem opd_ix : OpD Γ (rIx Γ.K) dIx := fun G S x y dx dy dz dom hx hy e Q q => by
  cases hx with
  | lst hx1 hx2 =>
    cases hy with
    | int i =>
      obtain ⟨v, h1, h2⟩ := atI_rel hx2 e
      exact .inl ⟨_, _, _, _, rfl, rfl, SqL.of (hide_le _ _ hx1), h1, q _ G (Same.refl _) h2⟩
    | _ => cases e
  | tup hx1 hx2 =>
    cases hy with
    | int i =>
      obtain ⟨v, h1, h2⟩ := atI_rel hx2 e
      exact .inr (.inl ⟨_, _, _, _, rfl, rfl, sqT_mono hide_le hx1, h1, q _ G (Same.refl _) h2⟩)
    | _ => cases e
  | str s =>
    cases hy with
    | int i =>
      have e' : (if s.length ≤ 1000000 then (atI s.cps.toList i).map fun c => D.str ⟨#[c]⟩ else none) = some dz := e
      by_cases hl : s.length ≤ 1000000
      · rw [if_pos hl] at e'
        cases ha : atI s.cps.toList i with
        | none => rw [ha] at e'; cases e'
        | some c =>
          rw [ha] at e'
          cases e'
          exact .inr (.inr ⟨_, _, c, rfl, rfl, size_ok hl, ha, q _ G (Same.refl _) (.str _)⟩)
      · rw [if_neg hl] at e'; cases e'
    | _ => cases e
  | _ => cases e
def cutD (l : List D) (lo hi : Option Int) : List D := (l.drop (HT.sIx l.length 0 lo)).take (HT.sIx l.length l.length hi - HT.sIx l.length 0 lo)
theorem cut_rel {H : Hp} {xs : List V} {l : List D} (h : IsDs Γ H xs l) (lo hi : Option Int) : IsDs Γ H (cutV xs lo hi) (cutD l lo hi) := by
  unfold cutV cutD
  rw [h.length]
  exact (h.drop _).take _
end
/-- a part of a slice -/
def oNone : Env → Rs (Option Int) := fun ρ => .ok none ρ
def oSome (m : Env → Rs D) : Env → Rs (Option Int) := fun ρ => (m ρ).bind fun d ρ1 => match d with
  | .int i => .ok (some i) ρ1
  | _ => .stuck
def eSl (m : Env → Rs D) (a b : Env → Rs (Option Int)) : Env → Rs D := fun ρ => (m ρ).bind fun d ρ1 => (a ρ1).bind fun lo ρ2 => (b ρ2).bind fun hi ρ3 => match d with
  | .lst l => .ok (.lst (cutD l lo hi)) ρ3
  | .tup l => .ok (.tup (cutD l lo hi)) ρ3
  | _ => .stuck
def rSlX (K : PySem.W.Frag) : V → Option Int → Option Int → Hp → VK → Prop := fun x lo hi H Q => rSlL K x lo hi H Q ∨ rSlA K x lo hi H Q
theorem slx {X : Cx} : SlR X (rSlX X.K) := by
  intro pins s σ H x v vl vu lo hi sl Q I rx hs pl pu h
  rcases h with h | h
  · exact sl_list pins s σ H x v vl vu lo hi sl Q I rx hs pl pu h
  · exact sl_tupA pins s σ H x v vl vu lo hi sl Q I rx hs pl pu h
section
variable {Γ : Gm} {fr : Frm} {te : TE} {m : Env → Rs D}
abbrev EO (Γ : Gm) (fr : Frm) (te : TO) (m : Env → Rs (Option Int)) : Prop := EVG (fun _ v d => v = d) Γ fr te m
theorem eo_none : EO Γ fr tNoPart oNone := fun σ ρ G S c Q p => PostG.give p (Same.refl _) c rfl
theorem eo_some (h : EV Γ fr te m) : EO Γ fr (tPart te) (oSome m) := fun σ ρ G S c Q p => by
  refine h.step c p fun d ρ1 x G1 S1 _ c1 hx p1 => ?_
  cases hx with
  | int i => exact ⟨i, rfl, p1.give (Same.refl _) c1 rfl⟩
  | _ => exact p1.elim
theorem ev_sl {tl th : TO} {a b : Env → Rs (Option Int)} (h : EV Γ fr te m) (ha : EO Γ fr tl a) (hb : EO Γ fr th b) : EV Γ fr (tSl (rSlX Γ.K) te tl th) (eSl m a b) := fun σ ρ G S c Q p => by
  refine h.step c p fun d ρ1 x G1 S1 _ c1 hx p1 => ?_
  refine ha.step c1 p1 fun lo ρ2 lo' G2 S2 e2 c2 hlo p2 => ?_
  refine hb.step c2 p2 fun hi ρ3 hi' G3 S3 e3 c3 hhi p3 => ?_
  subst hlo hhi
  have hx3 := (hx.le e2).le e3
  cases hx3 with
  | lst h1 h2 =>
    refine .inl ⟨_, _, rfl, SqL.of (hide_le _ _ h1), fun q hq => ?_⟩
    exact p3.give (hide_ext (same_upd hq)) (c3.ext (same_upd hq)) (.lst (c3.hideNew hq) ((cut_rel h2 _ _).le (hide_ext (same_upd hq))))
  | @tup a xs l h1 h2 =>
    refine .inr ⟨_, _, rfl, sqT_mono hide_le h1, fun hw => ?_, fun hw q hq => ?_⟩
    · have e1 : cutD l lo' hi' = l := by
        unfold cutD
        rw [h2.length] at hw
        rw [hw.1, hw.2, List.drop_zero, Nat.sub_zero, List.take_length]
      have p4 : PostG (fun H v d => IsD Γ H v d) Γ fr σ G3 S3 Q (.ok (.tup (cutD l lo' hi')) ρ3) := p3
      rw [e1] at p4
      exact p4.give (Same.refl _) c3 (.tup h1 h2)
    · exact PostG.give (d := D.tup (cutD l lo' hi')) p3 (hide_ext (same_upd hq)) (c3.ext (same_upd hq)) (.tup (SqT.of (c3.hideNew hq)) ((cut_rel h2 _ _).le (hide_ext (same_upd hq))))
  | _ => exact p3.elim
end

/-! ### == -/
mutual
def toPy : D → PyData
  | .non => .none
  | .bl b => .bool b
  | .int i => .int i
  | .str s => .str s
  | .tup l => .tuple (toPys l)
  | .lst l => .list (toPys l)
  | .scr _ => .none
  | .ins _ _ _ => .none
def toPys : List D → List PyData
  | [] => []
  | d :: r => toPy d :: toPys r
end
def okD : Nat → D → Bool
  | _, .non => true
  | _, .bl _ => true
  | _, .int _ => true
  | _, .str s => PyData.canLay0 (.str s)
  | n + 1, .tup l => l.all (okD n)
  | n + 1, .lst l => l.all (okD n)
  | _, _ => false
def eqvD (a b : D) : Bool := PyData.eqv (toPy a) (toPy b)
def eqvDs (a b : List D) : Bool := PyData.eqvAll (toPys a) (toPys b)
def dEq (a b : D) : Option D := if (okD 20 a && okD 20 b) = true then some (.bl (eqvD a b)) else none
def dNe (a b : D) : Option D := if (okD 20 a && okD 20 b) = true then some (.bl (!eqvD a b)) else none
section
variable {Γ : Gm} {H : Hp}
mutual
theorem dp_of : ∀ (n : Nat) (d : D) (v : V), okD n d = true → IsD Γ H v d → Dp Γ.K H v (toPy d)
  | n, .non, _, _, h => by cases h; exact .non
  | n, .bl b, _, _, h => by cases h; exact .bl b
  | n, .int i, _, _, h => by cases h; exact .int i
  | n, .str s, _, _, h => by cases h; exact .str s
  | 0, .tup l, _, o, h => by cases o
  | n + 1, .tup l, _, o, h => by
    cases h with
    | tup h1 h2 => exact .tup h1 (dps_of n l _ o h2)
  | 0, .lst l, _, o, h => by cases o
  | n + 1, .lst l, _, o, h => by
    cases h with
    | lst h1 h2 => exact .lst (SqL.of h1) (dps_of n l _ o h2)
  | n, .scr l, _, o, h => by cases n <;> cases o
  | n, .ins c ns l, _, o, h => by cases n <;> cases o
theorem dps_of : ∀ (n : Nat) (l : List D) (vs : List V), l.all (okD n) = true → IsDs Γ H vs l → DpAll Γ.K H vs (toPys l)
  | n, [], _, _, h => by cases h; exact .nil
  | n, d :: r, _, o, h => by
    rw [List.all_cons, Bool.and_eq_true] at o
    cases h with
    | cons h1 h2 => exact .cons (dp_of n d _ o.1 h1) (dps_of n r _ o.2 h2)
end
mutual
theorem shape_of : ∀ (n : Nat) (d : D), okD n d = true → (toPy d).canLay0 = true ∧ (toPy d).depth ≤ n
  | n, .non, _ => ⟨rfl, Nat.zero_le _⟩
  | n, .bl b, _ => ⟨rfl, Nat.zero_le _⟩
  | n, .int i, _ => ⟨rfl, Nat.zero_le _⟩
  | n, .str s, o => ⟨by cases n <;> exact o, Nat.zero_le _⟩
  | 0, .tup l, o => by cases o
  | n + 1, .tup l, o => by
    have h := shapes_of n l o
    exact ⟨h.1, Nat.succ_le_succ h.2⟩
  | 0, .lst l, o => by cases o
  | n + 1, .lst l, o => by
    have h := shapes_of n l o
    exact ⟨h.1, Nat.succ_le_succ h.2⟩
  | n, .scr l, o => by cases n <;> cases o
  | n, .ins c ns l, o => by cases n <;> cases o
theorem shapes_of : ∀ (n : Nat) (l : List D), l.all (okD n) = true → PyData.canLayAll0 (toPys l) = true ∧ PyData.depthAll (toPys l) ≤ n
  | n, [], _ => ⟨rfl, Nat.zero_le _⟩
  | n, d :: r, o => by
    rw [List.all_cons, Bool.and_eq_true] at o
    have h1 := shape_of n d o.1
    have h2 := shapes_of n r o.2
    refine ⟨?_, ?_⟩
    · show (PyData.canLay0 (toPy d) && PyData.canLayAll0 (toPys r)) = true
      rw [h1.1, h2.1]; rfl
    · show max (PyData.depth (toPy d)) (PyData.depthAll (toPys r)) ≤ n
      exact Nat.max_le.mpr ⟨h1.2, h2.2⟩
end
theorem shaped_of {d : D} (o : okD 20 d = true) : SeqAt.shaped (toPy d) = true := by
  have h := shape_of 20 d o
  unfold SeqAt.shaped
  rw [h.1, Bool.true_and]
  exact decide_eq_true (Nat.le_trans h.2 (by decide))
theorem dp_le {K : PySem.W.Frag} {H H' : Hp} (e : Same H H') {v : V} {d : PyData} (h : Dp K H v d) : Dp K H' v d := by
  refine Dp.rec (motive_1 := fun v d _ => Dp K H' v d) (motive_2 := fun vs ds _ => DpAll K H' vs ds) ?_ ?_ ?_ ?_ ?_ ?_ ?_ ?_ h
  · exact .non
  · exact fun b => .bl b
  · exact fun i => .int i
  · exact fun x => .str x
  · exact fun h1 _ h2 => .lst (e.seq h1) h2
  · exact fun h1 _ h2 => .tup (sqT_mono e h1) h2
  · exact .nil
  · exact fun _ _ h1 h2 => .cons h1 h2
theorem opd_eq : OpD Γ (rEqD Γ.K) dEq := fun G S x y dx dy dz dom hx hy e Q q => by
  obtain ⟨o, rfl⟩ := ite_some e
  rw [Bool.and_eq_true] at o
  exact ⟨_, _, dp_le hide_le (dp_of 20 _ _ o.1 hx), dp_le hide_le (dp_of 20 _ _ o.2 hy), shaped_of o.1, shaped_of o.2, q _ G (Same.refl _) (.bl _)⟩
theorem opd_ne : OpD Γ (rNeD Γ.K) dNe := fun G S x y dx dy dz dom hx hy e Q q => by
  obtain ⟨o, rfl⟩ := ite_some e
  rw [Bool.and_eq_true] at o
  exact ⟨_, _, dp_le hide_le (dp_of 20 _ _ o.1 hx), dp_le hide_le (dp_of 20 _ _ o.2 hy), shaped_of o.1, shaped_of o.2, q _ G (Same.refl _) (.bl _)⟩
end
end Py

set_option Elab.async false
set_option linter.all false
set_option maxRecDepth 100000
set_option maxHeartbeats 2000000
namespace Py
open PySem L2

/-! ## 5. Slots -/
section
variable {Γ : Gm} {fr : Frm} {σ : L2.St} {ρ ρ' : Env} {G G' : Hp} {S S' : Addr → Prop} {i : Nat} {v : V} {d : D}
theorem set_get {α : Type} {l : List α} {i j : Nat} {a b : α} (h : (l.set i a)[j]? = some b) : (j = i ∧ i < l.length ∧ b = a) ∨ (j ≠ i ∧ l[j]? = some b) := by
  by_cases e : j = i
  · subst e
    by_cases hl : j < l.length
    · rw [List.getElem?_set_self hl] at h
      exact .inl ⟨rfl, hl, (Option.some.inj h).symm⟩
    · rw [List.getElem?_eq_none (by simpa using hl)] at h
      cases h
  · rw [List.getElem?_set_ne (Ne.symm e)] at h
    exact .inr ⟨e, h⟩
theorem Co.less (c : Co Γ fr σ ρ G S) (hl : ρ'.length = ρ.length) (h : ∀ (i : Nat) (d : D), ρ'[i]? = some (some d) → ρ[i]? = some (some d)) : Co Γ fr σ ρ' G S where
  len := c.len.trans hl.symm
  dom := c.dom
  sub := c.sub
  keep := c.keep
  pin := c.pin
  hs0 := c.hs0
  xsl := c.xsl
  sh := fun i d h1 h2 => c.sh i d h1 (h i d h2)
  own := fun i d h1 h2 => c.own i d h1 (h i d h2)
  inj := fun i j d e p h1 h2 h3 h4 h5 => c.inj i j d e p h1 h2 h3 (h _ _ h4) (h _ _ h5)
theorem Co.set (c : Co Γ fr σ ρ G S) (hi : i ∉ fr.ow) (hz : fr.hd = false ∨ i ≠ 0) (hq : fr.xok i = true) (h : IsD Γ (hide S G) v d) : Co Γ fr (σ.set i (some v)) (ρ.set i (some d)) G S where
  len := by rw [List.length_set, List.length_set]; exact c.len
  dom := c.dom
  sub := c.sub
  keep := c.keep
  pin := fun e => by
    rcases hz with hz | hz
    · rw [hz] at e; cases e
    · rw [List.getElem?_set_ne hz]; exact c.pin e
  hs0 := c.hs0
  xsl := fun q h => ⟨by rw [List.getElem?_set_ne (Ne.symm (Frm.xok_ne hq h))]; exact (c.xsl q h).1, (c.xsl q h).2⟩
  sh := fun j d' h1 h2 => by
    rcases set_get h2 with ⟨rfl, hl, e⟩ | ⟨hne, e⟩
    · cases e
      exact ⟨v, List.getElem?_set_self (by rw [c.len]; exact hl), h⟩
    · obtain ⟨v', h3, h4⟩ := c.sh j d' h1 e
      exact ⟨v', by rw [List.getElem?_set_ne (Ne.symm hne)]; exact h3, h4⟩
  own := fun j d' h1 h2 => by
    have hne : j ≠ i := fun e => hi (e ▸ h1)
    rcases set_get h2 with ⟨e, _⟩ | ⟨_, e⟩
    · exact absurd e hne
    · rw [List.getElem?_set_ne (Ne.symm hne)]
      exact c.own j d' h1 e
  inj := fun j k d' e p h1 h2 h3 h4 h5 h6 h7 => by
    have hj : j ≠ i := fun e => hi (e ▸ h1)
    have hk : k ≠ i := fun e => hi (e ▸ h2)
    rw [List.getElem?_set_ne (Ne.symm hj)] at h4 h6
    rw [List.getElem?_set_ne (Ne.symm hk)] at h5 h7
    exact c.inj j k d' e p h1 h2 h3 h4 h5 h6 h7

/-! ## 6. Statements -/
inductive Out where
  | nx (ρ : Env)
  | ret (d : D) (ρ : Env)
  | brk (ρ : Env)
  | ct (ρ : Env)
  | exc (e : D) (ρ : Env)
  | stuck
def Rs.out {α : Type} (r : Rs α) (f : α → Env → Out) : Out := match r with
  | .ok a ρ => f a ρ
  | .exc e ρ => .exc e ρ
  | .stuck => .stuck
def PostS (Γ : Gm) (fr : Frm) (G : Hp) (S : Addr → Prop) (E : Ends) (r : Out) : Prop := match r with
  | .nx ρ' => ∀ σ' G' S', Same (hide S G) (hide S' G') → Co Γ fr σ' ρ' G' S' → E.nx σ' G'
  | .ret d ρ' => ∀ v σ' G' S', Same (hide S G) (hide S' G') → Co Γ fr σ' ρ' G' S' → IsD Γ (hide S' G') v d → E.rt v G'
  | .brk ρ' => ∀ σ' G' S', Same (hide S G) (hide S' G') → Co Γ fr σ' ρ' G' S' → E.bk σ' G'
  | .ct ρ' => ∀ σ' G' S', Same (hide S G) (hide S' G') → Co Γ fr σ' ρ' G' S' → E.ct σ' G'
  | .exc e ρ' => ∀ cls dx σ' G' S', Same (hide S G) (hide S' G') → Co Γ fr σ' ρ' G' S' → IsX Γ (hide S' G') cls dx e → fr.W cls dx σ' G'
  | .stuck => False
theorem PostS.mono {E : Ends} {r : Out} (e : Same (hide S G) (hide S' G')) (h : PostS Γ fr G S E r) : PostS Γ fr G' S' E r := by
  cases r with
  | nx _ => exact fun a b c e2 => h a b c (e.trans e2)
  | ret _ _ => exact fun a b c d e2 => h a b c d (e.trans e2)
  | brk _ => exact fun a b c e2 => h a b c (e.trans e2)
  | ct _ => exact fun a b c e2 => h a b c (e.trans e2)
  | exc _ _ => exact fun a b c d f e2 => h a b c d f (e.trans e2)
  | stuck => exact h
def SV (Γ : Gm) (fr : Frm) (t : TS) (m : Env → Out) : Prop := ∀ σ ρ G S, Co Γ fr σ ρ G S → ∀ E, PostS Γ fr G S E (m ρ) → t E σ G
theorem EVG.stepS {α β : Type} {R : Hp → β → α → Prop} {te : L2.St → Hp → (β → Hp → Prop) → Prop} {m : Env → Rs α} {f : α → Env → Out} {E : Ends} {Q1 : β → Hp → Prop}
    (h : EVG R Γ fr te m) (c : Co Γ fr σ ρ G S) (p : PostS Γ fr G S E ((m ρ).out f))
    (k : ∀ d ρ' v G' S', Same (hide S G) (hide S' G') → Co Γ fr σ ρ' G' S' → R (hide S' G') v d → PostS Γ fr G' S' E (f d ρ') → Q1 v G') : te σ G Q1 := by
  refine h σ ρ G S c Q1 ?_
  generalize m ρ = r at p ⊢
  cases r with
  | ok d ρ' => exact fun v G' S' e c' r => k d ρ' v G' S' e c' r (PostS.mono e p)
  | exc x ρ' => exact fun cls dx G' S' e c' r => p cls dx σ G' S' e c' r
  | stuck => exact p

variable {te : TE} {m : Env → Rs D} {t u : TS} {a b : Env → Out} {E : Ends}
def sNext : Env → Out := fun ρ => .nx ρ
def sBrk : Env → Out := fun ρ => .brk ρ
def sCt : Env → Out := fun ρ => .ct ρ
def sSeq (a b : Env → Out) : Env → Out := fun ρ => match a ρ with
  | .nx ρ1 => b ρ1
  | r => r
def sExpr (m : Env → Rs D) : Env → Out := fun ρ => (m ρ).out fun _ ρ1 => .nx ρ1
def sSet (i : Nat) (m : Env → Rs D) : Env → Out := fun ρ => (m ρ).out fun d ρ1 => .nx (ρ1.set i (some d))
def sRet (m : Env → Rs D) : Env → Out := fun ρ => (m ρ).out fun d ρ1 => .ret d ρ1
def sRetN : Env → Out := fun ρ => .ret .non ρ
def sIf (t : Env → Rs Bool) (a b : Env → Out) : Env → Out := fun ρ => (t ρ).out fun x ρ1 => if x = true then a ρ1 else b ρ1
theorem sv_next : SV Γ fr tNext sNext := fun σ ρ G S c E p => p σ G S (Same.refl _) c
theorem sv_brk : SV Γ fr tBreak sBrk := fun σ ρ G S c E p => p σ G S (Same.refl _) c
theorem sv_ct : SV Γ fr tCont sCt := fun σ ρ G S c E p => p σ G S (Same.refl _) c
theorem sv_seq (h1 : SV Γ fr t a) (h2 : SV Γ fr u b) : SV Γ fr (tSeq t u) (sSeq a b) := fun σ ρ G S c E p => by
  refine h1 σ ρ G S c { E with nx := u E } ?_
  unfold sSeq at p
  generalize a ρ = r at p ⊢
  cases r with
  | nx ρ1 => exact fun σ' G' S' e c' => h2 σ' ρ1 G' S' c' E (PostS.mono e p)
  | ret _ _ => exact p
  | brk _ => exact p
  | ct _ => exact p
  | exc _ _ => exact p
  | stuck => exact p
theorem sv_expr (h : EV Γ fr te m) : SV Γ fr (tDrop te) (sExpr m) := fun σ ρ G S c E p => by
  refine h.stepS c p fun d ρ1 x G1 S1 _ c1 _ p1 => ?_
  exact p1 σ G1 S1 (Same.refl _) c1
theorem sv_set (h : EV Γ fr te m) (hi : fr.notOwn i = true := by rfl) (hz : fr.hd = false ∨ i ≠ 0 := by first | exact Or.inl rfl | exact Or.inr (by decide)) (hq : fr.xok i = true := by rfl) : SV Γ fr (tAsg te (gName i)) (sSet i m) := fun σ ρ G S c E p => by
  refine h.stepS c p fun d ρ1 x G1 S1 _ c1 hx p1 => ?_
  exact p1 _ G1 S1 (Same.refl _) (c1.set (nown hi) hz hq hx)
theorem sv_ret (h : EV Γ fr te m) : SV Γ fr (tRet te) (sRet m) := fun σ ρ G S c E p => by
  refine h.stepS c p fun d ρ1 x G1 S1 _ c1 hx p1 => ?_
  exact p1 x σ G1 S1 (Same.refl _) c1 hx
theorem sv_retN : SV Γ fr tRetN sRetN := fun σ ρ G S c E p => p .non σ G S (Same.refl _) c .non
theorem sv_if {tt : TT} {mt : Env → Rs Bool} (h : ET Γ fr tt mt) (h1 : SV Γ fr t a) (h2 : SV Γ fr u b) : SV Γ fr (tIfS tt t u) (sIf mt a b) := fun σ ρ G S c E p => by
  refine h.stepS c p fun d ρ1 x G1 S1 _ c1 hx p1 => ?_
  subst hx
  cases x with
  | true => exact h1 σ ρ1 G1 S1 c1 E p1
  | false => exact h2 σ ρ1 G1 S1 c1 E p1
theorem sv_never : SV Γ fr tNever (fun _ => .stuck) := fun σ ρ G S c E p => p.elim

/-! ### targets -/
def Agree (ks : List Nat) (σ σ' : L2.St) : Prop := σ'.length = σ.length ∧ ∀ i, i ∉ ks → σ'[i]? = σ[i]?
def GV (Γ : Gm) (fr : Frm) (ks : List Nat) (g : TG) (mg : D → Env → Option Env) : Prop := ∀ σ ρ G S v d, Co Γ fr σ ρ G S → IsD Γ (hide S G) v d → ∀ ρ', mg d ρ = some ρ' → ∀ Q : L2.St → Hp → Prop, (∀ σ' G' S', Agree ks σ σ' → Same (hide S G) (hide S' G') → Co Γ fr σ' ρ' G' S' → Q σ' G') → g v σ G Q
def GsV (Γ : Gm) (fr : Frm) (ks : List Nat) (g : TGs) (mg : List D → Env → Option Env) : Prop := ∀ σ ρ G S v d, Co Γ fr σ ρ G S → IsDs Γ (hide S G) v d → ∀ ρ', mg d ρ = some ρ' → ∀ Q : L2.St → Hp → Prop, (∀ σ' G' S', Agree ks σ σ' → Same (hide S G) (hide S' G') → Co Γ fr σ' ρ' G' S' → Q σ' G') → g v σ G Q
def nmG (i : Nat) : D → Env → Option Env := fun d ρ => some (ρ.set i (some d))
def nilG : List D → Env → Option Env := fun l ρ => match l with
  | [] => some ρ
  | _ => none
def consG (a : D → Env → Option Env) (b : List D → Env → Option Env) : List D → Env → Option Env := fun l ρ => match l with
  | d :: r => (a d ρ).bind (b r)
  | [] => none
def tupG (n : Nat) (b : List D → Env → Option Env) : D → Env → Option Env := fun d ρ => match d with
  | .tup l => if l.length = n then b l ρ else none
  | _ => none
theorem gv_name (hi : fr.notOwn i = true := by rfl) (hz : fr.hd = false ∨ i ≠ 0 := by first | exact Or.inl rfl | exact Or.inr (by decide)) (hq : fr.xok i = true := by rfl) : GV Γ fr [i] (gName i) (nmG i) := fun σ ρ G S v d c h ρ' e Q q => by
  cases e
  exact q _ G S ⟨by rw [List.length_set], fun j hj => List.getElem?_set_ne (fun e => hj (by rw [e]; exact List.mem_singleton.mpr rfl))⟩ (Same.refl _) (c.set (nown hi) hz hq h)
theorem gs_nil : GsV Γ fr [] gNil nilG := fun σ ρ G S v d c h ρ' e Q q => by
  cases h with
  | nil =>
    cases e
    exact ⟨rfl, q σ G S ⟨rfl, fun _ _ => rfl⟩ (Same.refl _) c⟩
  | cons _ _ => cases e
theorem gs_cons {k1 k2 : List Nat} {g : TG} {gs : TGs} {mg : D → Env → Option Env} {mgs : List D → Env → Option Env} (h1 : GV Γ fr k1 g mg) (h2 : GsV Γ fr k2 gs mgs) : GsV Γ fr (k1 ++ k2) (gCons g gs) (consG mg mgs) := fun σ ρ G S v d c h ρ' e Q q => by
  cases h with
  | nil => cases e
  | cons r1 r2 =>
    rename_i v0 vs d0 ds
    have e' : (mg d0 ρ).bind (mgs ds) = some ρ' := e
    cases hm : mg d0 ρ with
    | none => rw [hm] at e'; cases e'
    | some ρ1 =>
      rw [hm] at e'
      refine ⟨_, _, rfl, h1 σ ρ G S _ _ c r1 ρ1 hm _ fun σ1 G1 S1 a1 e1 c1 => ?_⟩
      exact h2 σ1 ρ1 G1 S1 _ _ c1 (r2.le e1) ρ' e' _ fun σ2 G2 S2 a2 e2 c2 => q σ2 G2 S2 ⟨a2.1.trans a1.1, fun i hi => (a2.2 i fun z => hi (List.mem_append_right _ z)).trans (a1.2 i fun z => hi (List.mem_append_left _ z))⟩ (e1.trans e2) c2
theorem gv_tup {ks : List Nat} {n : Nat} {gs : TGs} {mgs : List D → Env → Option Env} (h2 : GsV Γ fr ks gs mgs) : GV Γ fr ks (gTup Γ.K n gs) (tupG n mgs) := fun σ ρ G S v d c h ρ' e Q q => by
  cases h with
  | tup h3 h4 =>
    rename_i a xs l
    have e' : (if l.length = n then mgs l ρ else none) = some ρ' := e
    by_cases hl : l.length = n
    · rw [if_pos hl] at e'
      exact ⟨_, _, rfl, sqT_mono hide_le h3, h4.length.trans hl, h2 σ ρ G S _ _ c h4 ρ' e' Q q⟩
    · rw [if_neg hl] at e'
      cases e'
  | _ => cases e
/-- targets = e -/
def sAsg (mg : D → Env → Option Env) (m : Env → Rs D) : Env → Out := fun ρ => (m ρ).out fun d ρ1 => match mg d ρ1 with
  | some ρ2 => .nx ρ2
  | none => .stuck
theorem sv_asg {ks : List Nat} {g : TG} {mg : D → Env → Option Env} (hg : GV Γ fr ks g mg) (h : EV Γ fr te m) : SV Γ fr (tAsg te g) (sAsg mg m) := fun σ ρ G S c E p => by
  refine h.stepS c p fun d ρ1 x G1 S1 _ c1 hx p1 => ?_
  cases hm : mg d ρ1 with
  | none =>
    have p2 : PostS Γ fr G1 S1 E (match mg d ρ1 with | some ρ2 => Out.nx ρ2 | none => Out.stuck) := p1
    rw [hm] at p2
    exact p2.elim
  | some ρ2 =>
    have p2 : PostS Γ fr G1 S1 E (match mg d ρ1 with | some ρ2 => Out.nx ρ2 | none => Out.stuck) := p1
    rw [hm] at p2
    exact hg σ ρ1 G1 S1 x d c1 hx ρ2 hm _ fun σ' G' S' _ e c' => p2 σ' G' S' e c'
/-- two names at once -/
def sPar (i j : Nat) (m : Env → Rs (List D)) : Env → Out := fun ρ => (m ρ).out fun ds ρ1 => match ds with
  | [x, y] => .nx ((ρ1.set i (some x)).set j (some y))
  | _ => .stuck
theorem sv_par {j : Nat} {ta : TA} {ma : Env → Rs (List D)} (h : EA Γ fr ta ma) (hi : fr.notOwn i = true := by rfl) (hz : fr.hd = false ∨ i ≠ 0 := by first | exact Or.inl rfl | exact Or.inr (by decide)) (hq : fr.xok i = true := by rfl) (hj : fr.notOwn j = true := by rfl) (hy : fr.hd = false ∨ j ≠ 0 := by first | exact Or.inl rfl | exact Or.inr (by decide)) (hw : fr.xok j = true := by rfl) :
    SV Γ fr (tPar i j ta) (sPar i j ma) := fun σ ρ G S c E p => by
  refine h.stepS c p fun ds ρ1 xs G1 S1 _ c1 hx p1 => ?_
  cases hx with
  | nil => exact p1.elim
  | cons r1 t1 =>
    cases t1 with
    | nil => exact p1.elim
    | cons r2 t2 =>
      cases t2 with
      | nil => exact ⟨_, _, rfl, p1 _ G1 S1 (Same.refl _) ((c1.set (nown hi) hz hq r1).set (nown hj) hy hw r2)⟩
      | cons _ _ => exact p1.elim

/-! ### what is walked -/
def JW (Γ : Gm) (J : It) (ds : List D) (H0 : Hp) : Prop := ∀ (i : Nat) (G : Hp) (S : Addr → Prop), Same H0 (hide S G) → (∀ a, S a → ∃ o, G a = some o) →
  (ds.length ≤ i → J.stop i G) ∧ ∀ d, ds[i]? = some d → J.go i G ∧ ∀ x G', J.yld i G x G' → Same G G' ∧ IsD Γ (hide S G') x d
abbrev IV (Γ : Gm) (fr : Frm) (wi : TI) (m : Env → Rs (List D)) : Prop := EVG (fun H J ds => JW Γ J ds H) Γ fr wi m
def itemsD : D → Option (List D)
  | .lst l => some l
  | .tup l => some l
  | .scr l => some (l.map D.int)
  | .str s => some (s.cps.toList.map fun c => D.str ⟨#[c]⟩)
  | _ => none
def iSeqM (m : Env → Rs D) : Env → Rs (List D) := fun ρ => (m ρ).bind fun d ρ1 => Rs.ofOpt (itemsD d) ρ1
/-- a list, a tuple or a text -/
def iSeq (K : PySem.W.Frag) (tl : TE) : TI := fun σ H R => tl σ H fun x H1 => (∃ a, x = .ref a ∧ (∃ xs, SqL K H1 a xs) ∧ R (Itl K a) H1) ∨ (∃ a, x = .ref a ∧ (∃ xs, SqT K H1 a xs) ∧ R (Itt K a) H1) ∨ ∃ z, x = .str z ∧ R (Its z) H1
open PyProof.Rows in
theorem pi_seq {X : Cx} {tg l : Expr} {tl : TE} (hl : PE X l tl) : PI X tg l (iSeq X.K tl) := by
  constructor
  intro pins s σ H R I h
  refine thn (hl.run pins s σ H _ I h) ?_
  rintro v s1 ⟨x, H1, I1, r1, ⟨a, rfl, ⟨xs, hq⟩, q⟩ | ⟨a, rfl, ⟨xs, hq⟩, q⟩ | ⟨z, rfl, q⟩⟩
  · cases r1
    obtain ⟨its, rv, pl, hz⟩ := I1.list hq
    refine wpAny_pyIter_list pl.isList ?_
    have new : ∀ b ∈ [s1.heap.objs.size], FpOk X pins H1 b := fun b hb => by
      obtain rfl : b = s1.heap.objs.size := by simpa using hb
      exact I1.fpOk (Nat.le_refl _) (I1.hok.fresh (Nat.le_refl _))
    exact ⟨_, [s1.heap.objs.size], _, _, H1, rfl, I1.kept (t' := s1.toks) (fun b o e => Heap.get?_push_of_some _ e), turn_list a _, ⟨_, Heap.get?_push_size _ rfl, rfl, rfl⟩, new, q⟩
  · cases r1
    obtain ⟨its, rv, pl, hz⟩ := I1.tuple hq
    refine wpAny_pyIter_tuple (items := its.toArray) pl ?_
    have new : ∀ b ∈ [s1.heap.objs.size], FpOk X pins H1 b := fun b hb => by
      obtain rfl : b = s1.heap.objs.size := by simpa using hb
      exact I1.fpOk (Nat.le_refl _) (I1.hok.fresh (Nat.le_refl _))
    exact ⟨_, [s1.heap.objs.size], _, _, H1, rfl, I1.kept (t' := s1.toks) (fun b o e => Heap.get?_push_of_some _ e), turn_tuple a _, ⟨_, Heap.get?_push_size _ rfl, rfl, rfl⟩, new, q⟩
  · obtain ⟨t, rfl⟩ := r1
    cases ha : z.cps.all (· < 128) with
    | false => exact wpAny_pyIter_wide ha (pi_one (tk := s1.toks) I1 _ (turn_str _ z t "str_iterator" (.inr rfl)) ⟨_, Heap.get?_push_size _ rfl, rfl, rfl⟩ q)
    | true => exact wpAny_pyIter_ascii ha (pi_one (tk := s1.toks) I1 _ (turn_str _ z t "str_ascii_iterator" (.inl rfl)) ⟨_, Heap.get?_push_size _ rfl, rfl, rfl⟩ q)
theorem jw_list {a : Addr} {xs : List V} {ds : List D} {H0 : Hp} (h : SqL Γ.K H0 a xs) (r : IsDs Γ H0 xs ds) : JW Γ (Itl Γ.K a) ds H0 := fun i G S e dom => by
  have hq : SqL Γ.K G a xs := (e.trans hide_le).seq h
  refine ⟨fun hl => ⟨xs, hq, by rw [r.length]; exact hl⟩, fun d hd => ?_⟩
  obtain ⟨v, hv, hr⟩ := r.get hd
  refine ⟨⟨xs, v, hq, hv⟩, fun x G' y => ?_⟩
  obtain ⟨rfl, y⟩ := y
  have hx := y xs hq
  rw [hv] at hx
  cases hx
  exact ⟨Same.refl _, hr.le e⟩
theorem jw_tup {a : Addr} {xs : List V} {ds : List D} {H0 : Hp} (h : SqT Γ.K H0 a xs) (r : IsDs Γ H0 xs ds) : JW Γ (Itt Γ.K a) ds H0 := fun i G S e dom => by
  have hq : SqT Γ.K G a xs := sqT_mono (e.trans hide_le) h
  refine ⟨fun hl => ⟨xs, hq, by rw [r.length]; exact hl⟩, fun d hd => ?_⟩
  obtain ⟨v, hv, hr⟩ := r.get hd
  refine ⟨⟨xs, v, hq, hv⟩, fun x G' y => ?_⟩
  obtain ⟨rfl, y⟩ := y
  have hx := y xs hq
  rw [hv] at hx
  cases hx
  exact ⟨Same.refl _, hr.le e⟩
theorem iv_seq (h : EV Γ fr te m) : IV Γ fr (iSeq Γ.K te) (iSeqM m) := fun σ ρ G S c Q p => by
  refine h.step c p fun d ρ1 x G1 S1 _ c1 hx p1 => ?_
  cases hx with
  | lst h1 h2 => exact .inl ⟨_, rfl, ⟨_, SqL.of (hide_le _ _ h1)⟩, PostG.give (d := _) p1 (Same.refl _) c1 (jw_list (SqL.of h1) h2)⟩
  | tup h1 h2 => exact .inr (.inl ⟨_, rfl, ⟨_, sqT_mono hide_le h1⟩, PostG.give (d := _) p1 (Same.refl _) c1 (jw_tup h1 h2)⟩)
  | scr h1 => exact .inl ⟨_, rfl, ⟨_, hide_le.seq h1⟩, PostG.give (d := _) p1 (Same.refl _) c1 (jw_list h1 (isDs_ints _))⟩
  | str z =>
    refine .inr (.inr ⟨z, rfl, PostG.give (d := _) p1 (Same.refl _) c1 fun i G S e dom => ⟨fun hl => ?_, fun d hd => ?_⟩⟩)
    · show z.cps.size ≤ i
      rw [List.length_map, Array.length_toList] at hl
      exact hl
    · rw [List.getElem?_map] at hd
      cases hc : z.cps.toList[i]? with
      | none => rw [hc] at hd; cases hd
      | some k =>
        rw [hc] at hd
        cases hd
        have hlt : i < z.cps.size := by
          have := (List.getElem?_eq_some_iff.mp hc).1
          simpa using this
        refine ⟨hlt, fun x G' y => ?_⟩
        obtain ⟨rfl, k', hk, rfl⟩ := y
        have e2 : z.cps[i]? = some k := by simpa using hc
        rw [e2] at hk
        cases hk
        exact ⟨Same.refl _, .str _⟩
  | _ => exact p1.elim
def rngD (lo hi : Int) : List D := (List.range (hi - lo).toNat).map fun k : Nat => D.int (lo + k)
def rng1M (m : Env → Rs (List D)) : Env → Rs (List D) := fun ρ => (m ρ).bind fun ds ρ1 => match ds with
  | [.int j] => if -(2 ^ 62) ≤ j ∧ j < 2 ^ 62 then .ok (rngD 0 j) ρ1 else .stuck
  | _ => .stuck
def rng2M (m : Env → Rs (List D)) : Env → Rs (List D) := fun ρ => (m ρ).bind fun ds ρ1 => match ds with
  | [.int i, .int j] => if -(2 ^ 62) ≤ i ∧ i < 2 ^ 62 ∧ -(2 ^ 62) ≤ j ∧ j < 2 ^ 62 then .ok (rngD i j) ρ1 else .stuck
  | _ => .stuck
theorem jw_rng {lo : Int} {n : Nat} {H0 : Hp} : JW Γ (Itr lo n) ((List.range n).map fun k : Nat => D.int (lo + k)) H0 := fun i G S e dom => by
  refine ⟨fun hl => ?_, fun d hd => ?_⟩
  · rw [List.length_map, List.length_range] at hl
    exact hl
  · rw [List.getElem?_map] at hd
    cases hc : (List.range n)[i]? with
    | none => rw [hc] at hd; cases hd
    | some k =>
      rw [hc] at hd
      cases hd
      obtain ⟨h1, h2⟩ := List.getElem?_eq_some_iff.mp hc
      rw [List.length_range] at h1
      rw [List.getElem_range] at h2
      subst h2
      refine ⟨h1, fun x G' y => ?_⟩
      obtain ⟨rfl, rfl⟩ := y
      exact ⟨Same.refl _, .int _⟩
theorem iv_rng1 {ta : TA} {ma : Env → Rs (List D)} (h : EA Γ fr ta ma) : IV Γ fr (iRng1 ta) (rng1M ma) := fun σ ρ G S c Q p => by
  refine h.step c p fun ds ρ1 xs G1 S1 _ c1 hx p1 => ?_
  cases hx with
  | nil => exact p1.elim
  | cons r1 t1 =>
    cases t1 with
    | cons _ _ => cases r1 <;> exact p1.elim
    | nil =>
      cases r1 with
      | int j =>
        have p2 : PostG (fun H J ds => JW Γ J ds H) Γ fr σ G1 S1 Q (if -(2 ^ 62) ≤ j ∧ j < 2 ^ 62 then .ok (rngD 0 j) ρ1 else .stuck) := p1
        by_cases hj : -(2 ^ 62) ≤ j ∧ j < 2 ^ 62
        · rw [if_pos hj] at p2
          refine ⟨j, rfl, hj.1, hj.2, PostG.give p2 (Same.refl _) c1 ?_⟩
          unfold rngD
          rw [Int.sub_zero]
          exact jw_rng
        · rw [if_neg hj] at p2
          exact p2.elim
      | _ => exact p1.elim
theorem iv_rng2 {ta : TA} {ma : Env → Rs (List D)} (h : EA Γ fr ta ma) : IV Γ fr (iRng2 ta) (rng2M ma) := fun σ ρ G S c Q p => by
  refine h.step c p fun ds ρ1 xs G1 S1 _ c1 hx p1 => ?_
  cases hx with
  | nil => exact p1.elim
  | cons r1 t1 =>
    cases t1 with
    | nil => cases r1 <;> exact p1.elim
    | cons r2 t2 =>
      cases t2 with
      | cons _ _ => cases r1 <;> first | exact p1.elim | (cases r2 <;> exact p1.elim)
      | nil =>
        cases r1 with
        | int i =>
          cases r2 with
          | int j =>
            have p2 : PostG (fun H J ds => JW Γ J ds H) Γ fr σ G1 S1 Q (if -(2 ^ 62) ≤ i ∧ i < 2 ^ 62 ∧ -(2 ^ 62) ≤ j ∧ j < 2 ^ 62 then .ok (rngD i j) ρ1 else .stuck) := p1
            by_cases hj : -(2 ^ 62) ≤ i ∧ i < 2 ^ 62 ∧ -(2 ^ 62) ≤ j ∧ j < 2 ^ 62
            · rw [if_pos hj] at p2
              exact ⟨i, j, rfl, hj, PostG.give p2 (Same.refl _) c1 jw_rng⟩
            · rw [if_neg hj] at p2
              exact p2.elim
          | _ => exact p1.elim
        | _ => exact p1.elim

/-! ### for, while -/
def forL (mg : D → Env → Option Env) (mb : Env → Out) : List D → Env → Out
  | [], ρ => .nx ρ
  | d :: ds, ρ => match mg d ρ with
    | none => .stuck
    | some ρ1 => match mb ρ1 with
      | .nx ρ2 => forL mg mb ds ρ2
      | .ct ρ2 => forL mg mb ds ρ2
      | .brk ρ2 => .nx ρ2
      | .ret d ρ2 => .ret d ρ2
      | .exc e ρ2 => .exc e ρ2
      | .stuck => .stuck
def sFor (mi : Env → Rs (List D)) (mg : D → Env → Option Env) (mb : Env → Out) : Env → Out := fun ρ => (mi ρ).out fun ds ρ1 => forL mg mb ds ρ1
theorem sv_for {ks : List Nat} {wi : TI} {g : TG} {mi : Env → Rs (List D)} {mg : D → Env → Option Env} (hi : IV Γ fr wi mi) (hg : GV Γ fr ks g mg) (hb : SV Γ fr t a) : SV Γ fr (tFor wi g t) (sFor mi mg a) := fun σ ρ G S c E p => by
  refine hi.stepS c p fun ds ρ1 J G1 S1 _ c1 hJ p1 => ?_
  refine ⟨fun i k σ' G' => k = ds.length - i ∧ i ≤ ds.length ∧ ∃ ρ' S', Co Γ fr σ' ρ' G' S' ∧ Same (hide S1 G1) (hide S' G') ∧ PostS Γ fr G' S' E (forL mg a (ds.drop i) ρ'), ⟨_, rfl, Nat.zero_le _, ρ1, S1, c1, Same.refl _, p1⟩, ?_⟩
  rintro i k σ2 G2 ⟨rfl, hle, ρ2, S2, c2, e2, p2⟩
  obtain ⟨hstop, hgo⟩ := hJ i G2 S2 e2 c2.dom
  by_cases hlt : i < ds.length
  · have hd : ds[i]? = some ds[i] := List.getElem?_eq_getElem hlt
    obtain ⟨go, yl⟩ := hgo _ hd
    have hdrop : ds.drop i = ds[i] :: ds.drop (i + 1) := List.drop_eq_getElem_cons hlt
    rw [hdrop] at p2
    generalize ds[i] = d at p2 yl
    unfold forL at p2
    cases hm : mg d ρ2 with
    | none => rw [hm] at p2; exact p2.elim
    | some ρ3 =>
      rw [hm] at p2
      refine .inr ⟨go, fun σ' G' => ∃ ρ' S', Co Γ fr σ' ρ' G' S' ∧ Same (hide S1 G1) (hide S' G') ∧ PostS Γ fr G' S' E (forL mg a (ds.drop (i + 1)) ρ'), ?_, ?_⟩
      · rintro σ' G' h
        exact ⟨_, by omega, rfl, hlt, h⟩
      · intro x G3 y
        obtain ⟨e3, hx⟩ := yl x G3 y
        refine hg σ2 ρ2 G3 S2 x d (c2.ext e3) hx ρ3 hm _ fun σ4 G4 S4 _ e4 c4 => ?_
        have e14 : Same (hide S2 G2) (hide S4 G4) := (hide_ext e3).trans e4
        refine hb σ4 ρ3 G4 S4 c4 _ ?_
        have p4 := PostS.mono e14 p2
        have p5 : PostS Γ fr G4 S4 E (match a ρ3 with
          | .nx ρ2 => forL mg a (ds.drop (i + 1)) ρ2
          | .ct ρ2 => forL mg a (ds.drop (i + 1)) ρ2
          | .brk ρ2 => .nx ρ2
          | .ret d ρ2 => .ret d ρ2
          | .exc e ρ2 => .exc e ρ2
          | .stuck => .stuck) := p4
        generalize a ρ3 = r at p5 ⊢
        cases r with
        | nx ρ5 => exact fun σ5 G5 S5 e5 c5 => ⟨ρ5, S5, c5, (e2.trans e14).trans e5, PostS.mono e5 p5⟩
        | ct ρ5 => exact fun σ5 G5 S5 e5 c5 => ⟨ρ5, S5, c5, (e2.trans e14).trans e5, PostS.mono e5 p5⟩
        | brk ρ5 => exact p5
        | ret _ _ => exact p5
        | exc _ _ => exact p5
        | stuck => exact p5
  · have e : ds.drop i = [] := List.drop_eq_nil_of_le (by omega)
    rw [e] at p2
    exact .inl ⟨hstop (by omega), p2 σ2 G2 S2 (Same.refl _) c2⟩

def whN (mt : Env → Rs Bool) (mb : Env → Out) : Nat → Env → Option Out
  | 0, _ => none
  | n + 1, ρ => match mt ρ with
    | .stuck => some .stuck
    | .exc e ρ1 => some (.exc e ρ1)
    | .ok false ρ1 => some (.nx ρ1)
    | .ok true ρ1 => match mb ρ1 with
      | .nx ρ2 => whN mt mb n ρ2
      | .ct ρ2 => whN mt mb n ρ2
      | .brk ρ2 => some (.nx ρ2)
      | .ret d ρ2 => some (.ret d ρ2)
      | .exc e ρ2 => some (.exc e ρ2)
      | .stuck => some .stuck
theorem whN_more {mt : Env → Rs Bool} {mb : Env → Out} : ∀ {n : Nat} {ρ : Env} {r : Out}, whN mt mb n ρ = some r → ∀ k, whN mt mb (n + k) ρ = some r
  | 0, _, _, h, _ => by cases h
  | n + 1, ρ, r, h, k => by
    have ek : n + 1 + k = (n + k) + 1 := by omega
    rw [ek]
    unfold whN at h ⊢
    cases e : mt ρ with
    | stuck => rw [e] at h; exact h
    | exc _ _ => rw [e] at h; exact h
    | ok b ρ1 =>
      rw [e] at h
      cases b with
      | false => exact h
      | true =>
        have h' : (match mb ρ1 with
          | .nx ρ2 => whN mt mb n ρ2
          | .ct ρ2 => whN mt mb n ρ2
          | .brk ρ2 => some (.nx ρ2)
          | .ret d ρ2 => some (.ret d ρ2)
          | .exc e ρ2 => some (.exc e ρ2)
          | .stuck => some .stuck) = some r := h
        show (match mb ρ1 with
          | .nx ρ2 => whN mt mb (n + k) ρ2
          | .ct ρ2 => whN mt mb (n + k) ρ2
          | .brk ρ2 => some (.nx ρ2)
          | .ret d ρ2 => some (.ret d ρ2)
          | .exc e ρ2 => some (.exc e ρ2)
          | .stuck => some .stuck) = some r
        generalize mb ρ1 = q at h' ⊢
        cases q with
        | nx ρ2 => exact whN_more h' k
        | ct ρ2 => exact whN_more h' k
        | brk _ => exact h'
        | ret _ _ => exact h'
        | exc _ _ => exact h'
        | stuck => exact h'
open Classical in
noncomputable def sWhile (mt : Env → Rs Bool) (mb : Env → Out) : Env → Out := fun ρ => if h : ∃ n r, whN mt mb n ρ = some r then Classical.choose (Classical.choose_spec h) else .stuck
theorem sWhile_of {mt : Env → Rs Bool} {mb : Env → Out} {n : Nat} {ρ : Env} {r : Out} (h : whN mt mb n ρ = some r) : sWhile mt mb ρ = r := by
  have hx : ∃ n r, whN mt mb n ρ = some r := ⟨n, r, h⟩
  unfold sWhile
  rw [dif_pos hx]
  have h2 := Classical.choose_spec (Classical.choose_spec hx)
  have h3 := whN_more h (Classical.choose hx)
  have h4 := whN_more h2 n
  rw [Nat.add_comm] at h4
  rw [h4] at h3
  exact Option.some.inj h3
theorem sv_while {tt : TT} {mt : Env → Rs Bool} (h : ET Γ fr tt mt) (hb : SV Γ fr t a) : SV Γ fr (tWhile tt t) (sWhile mt a) := fun σ ρ G S c E p => by
  unfold sWhile at p
  by_cases hx : ∃ n r, whN mt a n ρ = some r
  · rw [dif_pos hx] at p
    have h2 := Classical.choose_spec (Classical.choose_spec hx)
    generalize Classical.choose (Classical.choose_spec hx) = r at p h2
    generalize Classical.choose hx = n at h2
    refine ⟨fun n σ' G' => ∃ ρ' S' r, Co Γ fr σ' ρ' G' S' ∧ whN mt a n ρ' = some r ∧ PostS Γ fr G' S' E r, ⟨n, ρ, S, r, c, h2, p⟩, ?_⟩
    rintro n σ2 G2 ⟨ρ2, S2, r, c2, h2, p2⟩
    cases n with
    | zero => cases h2
    | succ n =>
      unfold whN at h2
      refine h σ2 ρ2 G2 S2 c2 _ ?_
      generalize mt ρ2 = q at h2 ⊢
      cases q with
      | stuck => cases h2; exact p2
      | exc e ρ3 => cases h2; exact fun cls dx G' S' e c r => p2 cls dx σ2 G' S' e c r
      | ok b ρ3 =>
        intro b' G3 S3 e3 c3 eb
        subst eb
        cases b' with
        | false =>
          cases h2
          exact p2 σ2 G3 S3 e3 c3
        | true =>
          refine ⟨fun σ' G' => ∃ ρ' S' r, Co Γ fr σ' ρ' G' S' ∧ whN mt a n ρ' = some r ∧ PostS Γ fr G' S' E r, fun σ' G' h => ⟨n, Nat.lt_succ_self _, h⟩, ?_⟩
          refine hb σ2 ρ3 G3 S3 c3 _ ?_
          have h4 : (match a ρ3 with
            | .nx ρ2 => whN mt a n ρ2
            | .ct ρ2 => whN mt a n ρ2
            | .brk ρ2 => some (.nx ρ2)
            | .ret d ρ2 => some (.ret d ρ2)
            | .exc e ρ2 => some (.exc e ρ2)
            | .stuck => some .stuck) = some r := h2
          generalize a ρ3 = q at h4 ⊢
          cases q with
          | nx ρ5 => exact fun σ5 G5 S5 e5 c5 => ⟨ρ5, S5, r, c5, h4, PostS.mono (e3.trans e5) p2⟩
          | ct ρ5 => exact fun σ5 G5 S5 e5 c5 => ⟨ρ5, S5, r, c5, h4, PostS.mono (e3.trans e5) p2⟩
          | brk ρ5 => cases h4; exact fun σ5 G5 S5 e5 c5 => p2 σ5 G5 S5 (e3.trans e5) c5
          | ret _ _ => cases h4; exact fun v σ5 G5 S5 e5 c5 r5 => p2 v σ5 G5 S5 (e3.trans e5) c5 r5
          | exc _ _ => cases h4; exact fun cls dx σ5 G5 S5 e5 c5 r5 => p2 cls dx σ5 G5 S5 (e3.trans e5) c5 r5
          | stuck => cases h4; exact p2
  · rw [dif_neg hx] at p
    exact p.elim
end
end Py

set_option Elab.async false
set_option linter.all false
set_option maxRecDepth 100000
set_option maxHeartbeats 2000000
namespace Py
open PySem L2

/-! ## 7. Lists of one's own -/
section
variable {Γ : Gm} {fr : Frm} {σ σ' : L2.St} {ρ ρ' : Env} {G G' : Hp} {S S' : Addr → Prop} {i : Nat} {v : V} {d : D} {te : TE} {m : Env → Rs D}

/-- a new list that nothing else names -/
def PostF (Γ : Gm) (fr : Frm) (σ : L2.St) (G : Hp) (S : Addr → Prop) (Q : VK) (r : Rs D) : Prop := match r with
  | .ok d ρ' => ∀ p xs l G' S', d = .lst l → Same (hide S G) (hide S' G') → Co Γ fr σ ρ' G' S' → S' p → G' p = some (.lst xs) → IsDs Γ (hide S' G') xs l → fr.B p = none → ¬ fr.S0 p → (fr.hd = true → p ≠ fr.hp) →
      (∀ i d, i ∈ fr.ow → ρ'[i]? = some (some d) → σ[i]? ≠ some (some (.ref p))) → Q (.ref p) G'
  | .exc e ρ' => ∀ cls dx G' S', Same (hide S G) (hide S' G') → Co Γ fr σ ρ' G' S' → IsX Γ (hide S' G') cls dx e → fr.W cls dx σ G'
  | .stuck => False
theorem PostF.mono {Q : VK} {r : Rs D} (e : Same (hide S G) (hide S' G')) (h : PostF Γ fr σ G S Q r) : PostF Γ fr σ G' S' Q r := by
  cases r with
  | ok d ρ' => exact fun p xs l G2 S2 h0 e2 => h p xs l G2 S2 h0 (e.trans e2)
  | exc x ρ' => exact fun cls dx G2 S2 e2 => h cls dx G2 S2 (e.trans e2)
  | stuck => exact h
def EVF (Γ : Gm) (fr : Frm) (te : TE) (m : Env → Rs D) : Prop := ∀ σ ρ G S, Co Γ fr σ ρ G S → ∀ Q, PostF Γ fr σ G S Q (m ρ) → te σ G Q
theorem EVG.stepF {α β : Type} {R : Hp → β → α → Prop} {te : L2.St → Hp → (β → Hp → Prop) → Prop} {m : Env → Rs α} {f : α → Env → Rs D} {Q : VK} {Q1 : β → Hp → Prop}
    (h : EVG R Γ fr te m) (c : Co Γ fr σ ρ G S) (p : PostF Γ fr σ G S Q ((m ρ).bind f))
    (k : ∀ d ρ' v G' S', Same (hide S G) (hide S' G') → Co Γ fr σ ρ' G' S' → R (hide S' G') v d → PostF Γ fr σ G' S' Q (f d ρ') → Q1 v G') : te σ G Q1 := by
  refine h σ ρ G S c Q1 ?_
  generalize m ρ = r at p ⊢
  cases r with
  | ok d ρ' => exact fun v G' S' e c' r => k d ρ' v G' S' e c' r (PostF.mono e p)
  | exc x ρ' => exact p
  | stuck => exact p
/-- what is hidden grows by a new address -/
theorem Co.hideMore (c : Co Γ fr σ ρ G S) {p : Addr} {o : HO} (hp : G p = none) : Co Γ fr σ ρ (upd G p o) (fun a => S a ∨ a = p) := by
  have le : Same (hide S G) (hide (fun a => S a ∨ a = p) (upd G p o)) := fun a u h => by
    obtain ⟨h1, h2⟩ := hide_some.mp h
    have ne : a ≠ p := ne_of_none h2 hp
    exact hide_of (fun z => z.elim h1 ne) (by rw [upd_ne ne]; exact h2)
  have same := same_upd (o := o) hp
  exact {
    len := c.len
    dom := fun a h => by
      rcases h with h | rfl
      · obtain ⟨u, e⟩ := c.dom a h
        exact ⟨u, same _ _ e⟩
      · exact ⟨o, upd_same⟩
    sub := fun a h => .inl (c.sub a h)
    keep := fun a u h1 h2 => same _ _ (c.keep a u h1 h2)
    pin := c.pin
    hs0 := c.hs0
    xsl := fun q h => ⟨(c.xsl q h).1, (c.xsl q h).2.le le⟩
    sh := fun i d h1 h2 => by
      obtain ⟨v, h3, h4⟩ := c.sh i d h1 h2
      exact ⟨v, h3, h4.le le⟩
    own := fun i d h1 h2 => by
      obtain ⟨q, xs, l, h3, h4, h5, h6, h7, h8⟩ := c.own i d h1 h2
      exact ⟨q, xs, l, h3, h4, .inl h5, same _ _ h6, h7.le le, h8⟩
    inj := c.inj }
theorem hideMore_le {p : Addr} {o : HO} (hp : G p = none) : Same (hide S G) (hide (fun a => S a ∨ a = p) (upd G p o)) := fun a u h => by
  obtain ⟨h1, h2⟩ := hide_some.mp h
  have ne : a ≠ p := ne_of_none h2 hp
  exact hide_of (fun z => z.elim h1 ne) (by rw [upd_ne ne]; exact h2)
theorem Co.newB (c : Co Γ fr σ ρ G S) {p : Addr} (hp : G p = none) : fr.B p = none ∧ ¬ fr.S0 p ∧ (fr.hd = true → p ≠ fr.hp) := by
  have h3 : fr.hd = true → p ≠ fr.hp := fun e z => by
    obtain ⟨o, h⟩ := c.dom _ (c.sub _ (c.hs0 e))
    rw [← z, hp] at h; cases h
  refine ⟨?_, fun z => c.fresh hp (c.sub _ z), h3⟩
  cases e : fr.B p with
  | none => rfl
  | some o =>
    have := c.keep p o h3 e
    rw [hp] at this; cases this
theorem Co.newOwn (c : Co Γ fr σ ρ G S) {p : Addr} (hp : G p = none) : ∀ i d, i ∈ fr.ow → ρ[i]? = some (some d) → σ[i]? ≠ some (some (.ref p)) := fun i d h1 h2 z => by
  obtain ⟨q, xs, l, h3, h4, h5, h6, h7, h8⟩ := c.own i d h1 h2
  rw [h4] at z
  cases z
  rw [hp] at h6; cases h6
theorem evf_lst {t : TA} {ma : Env → Rs (List D)} (ha : EA Γ fr t ma) : EVF Γ fr (tLst t) (aF dLst ma) := fun σ ρ G S c Q p => by
  refine ha.stepF c p fun dx ρ1 x G1 S1 _ c1 hx p1 => ?_
  have p1' : PostF Γ fr σ G1 S1 Q (Rs.ofOpt (dLst dx) ρ1) := p1
  unfold dLst at p1'
  by_cases hl : dx.length ≤ 1000000
  · rw [if_pos hl] at p1'
    refine ⟨size_ok (by rw [hx.length]; exact hl), fun q hq => ?_⟩
    obtain ⟨n1, n2, n3⟩ := c1.newB hq
    exact p1' q x dx _ (fun a => S1 a ∨ a = q) rfl (hideMore_le hq) (c1.hideMore hq) (.inr rfl) upd_same (hx.le (hideMore_le hq)) n1 n2 n3 (c1.newOwn hq)
  · rw [if_neg hl] at p1'
    exact p1'.elim
/-- x = a new list, x a name for a list of one's own -/
theorem sv_own (h : EVF Γ fr te m) (hi : fr.isOwn i = true := by rfl) (hz : fr.hd = false ∨ i ≠ 0 := by first | exact Or.inl rfl | exact Or.inr (by decide)) (hq : fr.xok i = true := by rfl) : SV Γ fr (tAsg te (gName i)) (sSet i m) := fun σ ρ G S c E p => by
  refine h σ ρ G S c _ ?_
  unfold sSet at p
  generalize m ρ = r at p ⊢
  cases r with
  | stuck => exact p
  | exc e ρ' => exact fun cls dx G' S' e c' r => p cls dx σ G' S' e c' r
  | ok d ρ1 =>
    intro q xs l G1 S1 ed e1 c1 hS hG hD hB hS0 hh hn
    subst ed
    have hi : i ∈ fr.ow := isown hi
    refine p _ G1 S1 e1 ?_
    exact {
      len := by rw [List.length_set, List.length_set]; exact c1.len
      dom := c1.dom
      sub := c1.sub
      keep := c1.keep
      hs0 := c1.hs0
      xsl := fun q h => ⟨by rw [List.getElem?_set_ne (Ne.symm (Frm.xok_ne hq h))]; exact (c1.xsl q h).1, (c1.xsl q h).2⟩
      pin := fun e => by
        rcases hz with hz | hz
        · rw [hz] at e; cases e
        · rw [List.getElem?_set_ne hz]; exact c1.pin e
      sh := fun j d' h1 h2 => by
        have hne : j ≠ i := fun e => h1 (e ▸ hi)
        rcases set_get h2 with ⟨e, _⟩ | ⟨_, e⟩
        · exact absurd e hne
        · rw [List.getElem?_set_ne (Ne.symm hne)]
          exact c1.sh j d' h1 e
      own := fun j d' h1 h2 => by
        rcases set_get h2 with ⟨rfl, hl, e⟩ | ⟨hne, e⟩
        · cases e
          exact ⟨q, xs, l, rfl, List.getElem?_set_self (by rw [c1.len]; exact hl), hS, hG, hD, .inr ⟨hB, hS0⟩⟩
        · rw [List.getElem?_set_ne (Ne.symm hne)]
          exact c1.own j d' h1 e
      inj := fun j k d' e' p' h1 h2 h3 h4 h5 h6 h7 => by
        rcases set_get h6 with ⟨rfl, _, e1⟩ | ⟨n1, e1⟩
        · rcases set_get h7 with ⟨rfl, _, _⟩ | ⟨n2, e2⟩
          · exact h3 rfl
          · cases e1
            rw [List.getElem?_set_ne (Ne.symm n2)] at h5
            exact hn k e' h2 h5 e2
        · rw [List.getElem?_set_ne (Ne.symm n1)] at h4
          rcases set_get h7 with ⟨rfl, _, e2⟩ | ⟨n2, e2⟩
          · cases e2
            exact hn j d' h1 h4 e1
          · rw [List.getElem?_set_ne (Ne.symm n2)] at h5
            exact c1.inj j k d' e' p' h1 h2 h3 h4 h5 e1 e2 }

/-- the list in an own slot is changed -/
theorem Co.write (c : Co Γ fr σ ρ G S) (hi : i ∈ fr.ow) {p : Addr} {xs xs' : List V} {l l' : List D} (e : ρ[i]? = some (some (.lst l))) (hs : σ[i]? = some (some (.ref p))) (hG : G p = some (.lst xs)) (hS : S p) (hD : IsDs Γ (hide S G) xs' l')
    (hb : (fr.hd = true ∧ i = 0 ∧ p = fr.hp) ∨ (fr.B p = none ∧ ¬ fr.S0 p)) : Co Γ fr σ (ρ.set i (some (.lst l'))) (upd G p (.lst xs')) S ∧ hide S (upd G p (.lst xs')) = hide S G := by
  have eh : hide S (upd G p (.lst xs')) = hide S G := by
    funext a
    unfold hide
    by_cases ha : S a
    · rw [if_pos ha, if_pos ha]
    · rw [if_neg ha, if_neg ha, upd_ne (fun z => ha (by rw [z]; exact hS))]
  have hlen : i < ρ.length := (List.getElem?_eq_some_iff.mp e).1
  refine ⟨?_, eh⟩
  exact {
    len := by rw [List.length_set]; exact c.len
    dom := fun a h => by
      by_cases ha : a = p
      · subst ha; exact ⟨_, upd_same⟩
      · rw [upd_ne ha]; exact c.dom a h
    sub := c.sub
    keep := fun a o h1 h2 => by
      have ha : a ≠ p := fun z => by
        subst z
        rcases hb with ⟨b1, _, b3⟩ | ⟨b1, _⟩
        · exact h1 b1 b3
        · rw [b1] at h2; cases h2
      rw [upd_ne ha]; exact c.keep a o h1 h2
    hs0 := c.hs0
    pin := c.pin
    xsl := fun q h => by rw [eh]; exact c.xsl q h
    sh := fun j d' h1 h2 => by
      rw [eh]
      rcases set_get h2 with ⟨rfl, _⟩ | ⟨_, e2⟩
      · exact absurd hi h1
      · exact c.sh j d' h1 e2
    own := fun j d' h1 h2 => by
      rw [eh]
      rcases set_get h2 with ⟨rfl, hl, e2⟩ | ⟨hne, e2⟩
      · cases e2
        exact ⟨p, xs', l', rfl, hs, hS, upd_same, hD, hb⟩
      · obtain ⟨q, ys, m, h3, h4, h5, h6, h7, h8⟩ := c.own j d' h1 e2
        have hq : q ≠ p := fun z => by
          subst z
          exact c.inj j i d' _ q h1 hi hne e2 e h4 hs
        exact ⟨q, ys, m, h3, h4, h5, by rw [upd_ne hq]; exact h6, h7, h8⟩
    inj := fun j k d' e' p' h1 h2 h3 h4 h5 h6 h7 => by
      have q1 : ∃ d, ρ[j]? = some (some d) := by
        rcases set_get h4 with ⟨rfl, _⟩ | ⟨_, e2⟩
        · exact ⟨_, e⟩
        · exact ⟨_, e2⟩
      have q2 : ∃ d, ρ[k]? = some (some d) := by
        rcases set_get h5 with ⟨rfl, _⟩ | ⟨_, e2⟩
        · exact ⟨_, e⟩
        · exact ⟨_, e2⟩
      obtain ⟨_, q1⟩ := q1
      obtain ⟨_, q2⟩ := q2
      exact c.inj j k _ _ p' h1 h2 h3 q1 q2 h6 h7 }
def ownL (ρ : Env) (i : Nat) : Option (List D) := match ρ[i]? with
  | some (some (.lst l)) => some l
  | _ => none
theorem ownL_of {l : List D} (h : ownL ρ i = some l) : ρ[i]? = some (some (.lst l)) := by
  unfold ownL at h
  split at h
  · rename_i l' e
    cases h
    exact e
  · cases h
theorem Co.ownAt (c : Co Γ fr σ ρ G S) (hi : i ∈ fr.ow) {l : List D} (h : ownL ρ i = some l) : ∃ p xs, σ[i]? = some (some (.ref p)) ∧ S p ∧ G p = some (.lst xs) ∧ IsDs Γ (hide S G) xs l ∧ ((fr.hd = true ∧ i = 0 ∧ p = fr.hp) ∨ (fr.B p = none ∧ ¬ fr.S0 p)) := by
  obtain ⟨p, xs, l', h3, h4, h5, h6, h7, h8⟩ := c.own i _ hi (ownL_of h)
  cases h3
  exact ⟨p, xs, h4, h5, h6, h7, h8⟩
/-- x.append(e) -/
def sApp (i : Nat) (m : Env → Rs D) : Env → Out := fun ρ => match ownL ρ i with
  | none => .stuck
  | some _ => (m ρ).out fun d ρ1 => match ownL ρ1 i with
    | none => .stuck
    | some l => if l.length < 1000000 then .nx (ρ1.set i (some (.lst (l ++ [d])))) else .stuck
theorem sv_app (h : EV Γ fr te m) (hi : fr.isOwn i = true := by rfl) : SV Γ fr (tDrop (tBM Γ.K "list" rAppend (tVar i) (tCons te tNil))) (sApp i m) := fun σ ρ G S c E p => by
  have hi : i ∈ fr.ow := isown hi
  unfold sApp at p
  cases ho : ownL ρ i with
  | none => rw [ho] at p; exact p.elim
  | some l0 =>
    rw [ho] at p
    obtain ⟨q, xs0, h4, h5, h6, h7, h8⟩ := c.ownAt hi ho
    refine ⟨.ref q, h4, .inl ⟨rfl, _, .inl (.inl h6)⟩, ?_⟩
    refine h.stepS c p fun d ρ1 x G1 S1 _ c1 hx p1 => ?_
    cases ho1 : ownL ρ1 i with
    | none =>
      have p2 : PostS Γ fr G1 S1 E (match ownL ρ1 i with
        | none => .stuck
        | some l => if l.length < 1000000 then .nx (ρ1.set i (some (.lst (l ++ [d])))) else .stuck) := p1
      rw [ho1] at p2
      exact p2.elim
    | some l =>
      have p2 : PostS Γ fr G1 S1 E (match ownL ρ1 i with
        | none => .stuck
        | some l => if l.length < 1000000 then .nx (ρ1.set i (some (.lst (l ++ [d])))) else .stuck) := p1
      rw [ho1] at p2
      obtain ⟨q1, xs, g4, g5, g6, g7, g8⟩ := c1.ownAt hi ho1
      rw [h4] at g4
      cases g4
      have p3 : PostS Γ fr G1 S1 E (if l.length < 1000000 then .nx (ρ1.set i (some (.lst (l ++ [d])))) else .stuck) := p2
      by_cases hl : l.length < 1000000
      · rw [if_pos hl] at p3
        refine ⟨q, xs, x, rfl, rfl, g6, Nat.lt_of_lt_of_le (by rw [g7.length]; exact hl) (size_ok (Nat.le_refl _)), ?_⟩
        obtain ⟨c2, eh⟩ := c1.write hi (ownL_of ho1) h4 g6 g5 (g7.append (.cons hx .nil)) g8
        exact p3 σ _ S1 (by rw [eh]; exact Same.refl _) c2
      · rw [if_neg hl] at p3
        exact p3.elim
/-- x[k] = e -/
def sSetIx (i : Nat) (mk m : Env → Rs D) : Env → Out := fun ρ => (m ρ).out fun d ρ1 => match ownL ρ1 i with
  | none => .stuck
  | some _ => (mk ρ1).out fun k ρ2 => match ownL ρ2 i, k with
    | some l, .int n => match ixN l.length n with
      | some j => .nx (ρ2.set i (some (.lst (l.set j d))))
      | none => .stuck
    | _, _ => .stuck
theorem sv_setIx {tk : TE} {mk : Env → Rs D} (h : EV Γ fr te m) (hk : EV Γ fr tk mk) (hi : fr.isOwn i = true := by rfl) : SV Γ fr (tAsg te (gSub (tVar i) tk rSetL)) (sSetIx i mk m) := fun σ ρ G S c E p => by
  have hi : i ∈ fr.ow := isown hi
  refine h.stepS c p fun d ρ1 x G1 S1 _ c1 hx p1 => ?_
  cases ho : ownL ρ1 i with
  | none =>
    have p2 : PostS Γ fr G1 S1 E (match ownL ρ1 i with
      | none => .stuck
      | some _ => (mk ρ1).out fun k ρ2 => match ownL ρ2 i, k with
        | some l, .int n => match ixN l.length n with
          | some j => .nx (ρ2.set i (some (.lst (l.set j d))))
          | none => .stuck
        | _, _ => .stuck) := p1
    rw [ho] at p2
    exact p2.elim
  | some l0 =>
    have p2 : PostS Γ fr G1 S1 E (match ownL ρ1 i with
      | none => .stuck
      | some _ => (mk ρ1).out fun k ρ2 => match ownL ρ2 i, k with
        | some l, .int n => match ixN l.length n with
          | some j => .nx (ρ2.set i (some (.lst (l.set j d))))
          | none => .stuck
        | _, _ => .stuck) := p1
    rw [ho] at p2
    obtain ⟨q, xs0, h4, h5, h6, h7, h8⟩ := c1.ownAt hi ho
    refine ⟨.ref q, h4, ?_⟩
    refine hk.stepS c1 p2 fun k ρ2 y G2 S2 e2 c2 hy p3 => ?_
    cases hy with
    | int n =>
      cases ho2 : ownL ρ2 i with
      | none =>
        have p4 : PostS Γ fr G2 S2 E (match ownL ρ2 i, D.int n with
          | some l, .int n => match ixN l.length n with
            | some j => .nx (ρ2.set i (some (.lst (l.set j d))))
            | none => .stuck
          | _, _ => .stuck) := p3
        rw [ho2] at p4
        exact p4.elim
      | some l =>
        have p4 : PostS Γ fr G2 S2 E (match ownL ρ2 i, D.int n with
          | some l, .int n => match ixN l.length n with
            | some j => .nx (ρ2.set i (some (.lst (l.set j d))))
            | none => .stuck
          | _, _ => .stuck) := p3
        rw [ho2] at p4
        obtain ⟨q1, xs, g4, g5, g6, g7, g8⟩ := c2.ownAt hi ho2
        rw [h4] at g4
        cases g4
        cases hj : ixN l.length n with
        | none =>
          have p5 : PostS Γ fr G2 S2 E (match ixN l.length n with
            | some j => .nx (ρ2.set i (some (.lst (l.set j d))))
            | none => .stuck) := p4
          rw [hj] at p5
          exact p5.elim
        | some j =>
          have p5 : PostS Γ fr G2 S2 E (match ixN l.length n with
            | some j => .nx (ρ2.set i (some (.lst (l.set j d))))
            | none => .stuck) := p4
          rw [hj] at p5
          refine ⟨q, xs, n, j, rfl, rfl, g6, by rw [g7.length]; exact hj, ?_⟩
          obtain ⟨c3, eh⟩ := c2.write hi (ownL_of ho2) h4 g6 g5 (IsDs.set (hx.le e2) j g7) g8
          exact p5 σ _ S2 (by rw [eh]; exact Same.refl _) c3
    | _ =>
      cases ho2 : ownL ρ2 i with
      | none =>
        have p4 := p3
        rw [ho2] at p4
        exact p4.elim
      | some l =>
        have p4 := p3
        rw [ho2] at p4
        exact p4.elim
/-- x[k], x a list of one's own -/
def eIxOwn (i : Nat) (mk : Env → Rs D) : Env → Rs D := fun ρ => match ownL ρ i with
  | none => .stuck
  | some _ => (mk ρ).bind fun k ρ1 => match ownL ρ1 i with
    | none => .stuck
    | some l => Rs.ofOpt (dIx (.lst l) k) ρ1
theorem ev_ixOwn {tk : TE} {mk : Env → Rs D} (hk : EV Γ fr tk mk) (hi : fr.isOwn i = true := by rfl) : EV Γ fr (tOp (rIx Γ.K) (tVar i) tk) (eIxOwn i mk) := fun σ ρ G S c Q p => by
  have hi : i ∈ fr.ow := isown hi
  unfold eIxOwn at p
  cases ho : ownL ρ i with
  | none => rw [ho] at p; exact p.elim
  | some l0 =>
    rw [ho] at p
    obtain ⟨q, xs0, h4, h5, h6, h7, h8⟩ := c.ownAt hi ho
    refine ⟨.ref q, h4, ?_⟩
    refine hk.step c p fun k ρ1 x G1 S1 _ c1 hx p1 => ?_
    cases ho1 : ownL ρ1 i with
    | none =>
      have p2 : PostG (fun H v d => IsD Γ H v d) Γ fr σ G1 S1 Q (match ownL ρ1 i with
        | none => .stuck
        | some l => Rs.ofOpt (dIx (.lst l) k) ρ1) := p1
      rw [ho1] at p2
      exact p2.elim
    | some l =>
      have p2 : PostG (fun H v d => IsD Γ H v d) Γ fr σ G1 S1 Q (match ownL ρ1 i with
        | none => .stuck
        | some l => Rs.ofOpt (dIx (.lst l) k) ρ1) := p1
      rw [ho1] at p2
      obtain ⟨q1, xs, g4, g5, g6, g7, g8⟩ := c1.ownAt hi ho1
      rw [h4] at g4
      cases g4
      obtain ⟨dz, hf, p3⟩ := PostG.giveO p2
      cases hx with
      | int n =>
        obtain ⟨v, h1, h2⟩ := atI_rel g7 hf
        exact .inl ⟨q, xs, n, v, rfl, rfl, SqL.of g6, h1, p3.give (Same.refl _) c1 h2⟩
      | _ => cases hf
/-- the list in an own slot is given away: the slot is empty from then on -/
def eMove (i : Nat) : Env → Rs D := fun ρ => match ownL ρ i with
  | none => .stuck
  | some l => .ok (.lst l) (ρ.set i none)
theorem ev_move (hi : fr.isOwn i = true := by rfl) (hz : fr.hd = false ∨ i ≠ 0 := by first | exact Or.inl rfl | exact Or.inr (by decide)) : EV Γ fr (tVar i) (eMove i) := fun σ ρ G S c Q p => by
  have hi : i ∈ fr.ow := isown hi
  unfold eMove at p
  cases ho : ownL ρ i with
  | none => rw [ho] at p; exact p.elim
  | some l =>
    rw [ho] at p
    obtain ⟨q, xs, h4, h5, h6, h7, h8⟩ := c.ownAt hi ho
    refine ⟨.ref q, h4, ?_⟩
    have hb : fr.B q = none ∧ ¬ fr.S0 q := by
      rcases h8 with ⟨a, b, _⟩ | h
      · rcases hz with hz | hz
        · rw [hz] at a; cases a
        · exact absurd b hz
      · exact h
    have le : Same (hide S G) (hide (fun a => S a ∧ a ≠ q) G) := hide_less fun a h => h.1
    refine PostG.give p le (S' := fun a => S a ∧ a ≠ q) ?_ (.lst (hide_of (fun z => z.2 rfl) h6) (h7.le le))
    exact {
      len := by rw [List.length_set]; exact c.len
      dom := fun a h => c.dom a h.1
      sub := fun a h => ⟨c.sub a h, fun z => hb.2 (z ▸ h)⟩
      keep := c.keep
      hs0 := c.hs0
      pin := c.pin
      xsl := fun q h => ⟨(c.xsl q h).1, (c.xsl q h).2.le le⟩
      sh := fun j d' h1 h2 => by
        rcases set_get h2 with ⟨_, _, e⟩ | ⟨_, e⟩
        · cases e
        · obtain ⟨v, h3, h4⟩ := c.sh j d' h1 e
          exact ⟨v, h3, h4.le le⟩
      own := fun j d' h1 h2 => by
        rcases set_get h2 with ⟨_, _, e⟩ | ⟨hne, e⟩
        · cases e
        · obtain ⟨q', ys, m, g3, g4, g5, g6, g7, g8⟩ := c.own j d' h1 e
          refine ⟨q', ys, m, g3, g4, ⟨g5, fun z => ?_⟩, g6, g7.le le, g8⟩
          subst z
          exact c.inj j i d' _ q' h1 hi hne e (ownL_of ho) g4 h4
      inj := fun j k d' e' p' h1 h2 h3 g4 g5 => by
        rcases set_get g4 with ⟨_, _, e⟩ | ⟨_, e1⟩
        · cases e
        · rcases set_get g5 with ⟨_, _, e⟩ | ⟨_, e2⟩
          · cases e
          · exact c.inj j k d' e' p' h1 h2 h3 e1 e2 }
/-- a reading of an own list that keeps nothing of it: f tells a plain value -/
def aOwn (f : List D → Option D) (i : Nat) : Env → Rs D := fun ρ => match ownL ρ i with
  | none => .stuck
  | some l => Rs.ofOpt (f l) ρ
end
end Py

set_option Elab.async false
set_option linter.all false
set_option maxRecDepth 100000
set_option maxHeartbeats 2000000
namespace Py
open PySem L2

/-! ## 8. Comprehensions -/
def wipeE (ρ : Env) : List Nat → Env
  | [] => ρ
  | v :: vs => (wipeE ρ vs).set v none
def restE (ρ0 ρ : Env) : List Nat → Env
  | [] => ρ
  | v :: vs => (restE ρ0 ρ vs).set v ((ρ0[v]?).getD none)
theorem wipeE_length (ρ : Env) : ∀ vs : List Nat, (wipeE ρ vs).length = ρ.length
  | [] => rfl
  | v :: vs => by unfold wipeE; rw [List.length_set, wipeE_length ρ vs]
theorem restE_length (ρ0 ρ : Env) : ∀ vs : List Nat, (restE ρ0 ρ vs).length = ρ.length
  | [] => rfl
  | v :: vs => by unfold restE; rw [List.length_set, restE_length ρ0 ρ vs]
theorem wipeE_some {ρ : Env} {i : Nat} {d : D} : ∀ {vs : List Nat}, (wipeE ρ vs)[i]? = some (some d) → ρ[i]? = some (some d) ∧ i ∉ vs
  | [], h => ⟨h, by simp⟩
  | v :: vs, h => by
    unfold wipeE at h
    rcases set_get h with ⟨_, _, e⟩ | ⟨hne, e⟩
    · cases e
    · obtain ⟨h1, h2⟩ := wipeE_some e
      exact ⟨h1, fun z => by
        rcases List.mem_cons.mp z with z | z
        · exact hne z
        · exact h2 z⟩
theorem restE_some {ρ0 ρ : Env} {i : Nat} {d : D} : ∀ {vs : List Nat}, (restE ρ0 ρ vs)[i]? = some (some d) → (i ∈ vs ∧ ρ0[i]? = some (some d)) ∨ (i ∉ vs ∧ ρ[i]? = some (some d))
  | [], h => .inr ⟨by simp, h⟩
  | v :: vs, h => by
    unfold restE at h
    rcases set_get h with ⟨rfl, _, e⟩ | ⟨hne, e⟩
    · left
      refine ⟨List.mem_cons_self, ?_⟩
      cases h0 : ρ0[i]? with
      | none => rw [h0] at e; cases e
      | some o =>
        rw [h0] at e
        exact congrArg some e.symm
    · rcases restE_some e with ⟨h1, h2⟩ | ⟨h1, h2⟩
      · exact .inl ⟨List.mem_cons_of_mem _ h1, h2⟩
      · exact .inr ⟨fun z => by
          rcases List.mem_cons.mp z with z | z
          · exact hne z
          · exact h1 z, h2⟩
theorem wipe_get {σ : L2.St} {i : Nat} : ∀ {vs : List Nat}, i ∉ vs → (wipe σ vs)[i]? = σ[i]?
  | [], _ => rfl
  | v :: vs, h => by
    unfold wipe
    rw [List.getElem?_set_ne (fun e => h (by rw [e]; exact List.mem_cons_self))]
    exact wipe_get fun z => h (List.mem_cons_of_mem _ z)
theorem wipe_in {σ : L2.St} {i : Nat} : ∀ {vs : List Nat}, i ∈ vs → (wipe σ vs)[i]? = if i < σ.length then some none else none
  | [], h => by cases h
  | v :: vs, h => by
    unfold wipe
    by_cases e : i = v
    · subst e
      by_cases hl : i < σ.length
      · rw [if_pos hl]
        exact List.getElem?_set_self (by rw [wipe_length]; exact hl)
      · rw [if_neg hl]
        exact List.getElem?_eq_none (by rw [List.length_set, wipe_length]; omega)
    · rw [List.getElem?_set_ne (Ne.symm e)]
      rcases List.mem_cons.mp h with z | z
      · exact absurd z e
      · exact wipe_in z
theorem wipe_agree {σ σ' : L2.St} {ks vs : List Nat} (a : Agree ks σ σ') (h : ∀ k ∈ ks, k ∈ vs) : wipe σ' vs = wipe σ vs := by
  apply List.ext_getElem?
  intro i
  by_cases hi : i ∈ vs
  · rw [wipe_in hi, wipe_in hi, a.1]
  · rw [wipe_get hi, wipe_get hi]
    exact a.2 i fun z => hi (h i z)
section
variable {Γ : Gm} {fr : Frm} {σ σ' : L2.St} {ρ ρ' : Env} {G G' : Hp} {S S' : Addr → Prop} {i : Nat} {v : V} {d : D} {te : TE} {m : Env → Rs D}
theorem Co.wipe {vs : List Nat} (c : Co Γ fr σ ρ G S) (hv : fr.hd = false ∨ 0 ∉ vs) (hx : fr.xs = none) : Co Γ fr (L2.wipe σ vs) (wipeE ρ vs) G S where
  len := by rw [wipe_length, wipeE_length]; exact c.len
  dom := c.dom
  sub := c.sub
  keep := c.keep
  hs0 := c.hs0
  xsl := fun q h => by rw [hx] at h; cases h
  pin := fun e => by
    rcases hv with h | h
    · rw [h] at e; cases e
    · rw [wipe_get h]; exact c.pin e
  sh := fun i d h1 h2 => by
    obtain ⟨h3, h4⟩ := wipeE_some h2
    obtain ⟨v, h5, h6⟩ := c.sh i d h1 h3
    exact ⟨v, by rw [wipe_get h4]; exact h5, h6⟩
  own := fun i d h1 h2 => by
    obtain ⟨h3, h4⟩ := wipeE_some h2
    rw [wipe_get h4]
    exact c.own i d h1 h3
  inj := fun i j d e p h1 h2 h3 h4 h5 h6 h7 => by
    obtain ⟨g1, g2⟩ := wipeE_some h4
    obtain ⟨g3, g4⟩ := wipeE_some h5
    rw [wipe_get g2] at h6
    rw [wipe_get g4] at h7
    exact c.inj i j d e p h1 h2 h3 g1 g3 h6 h7
/-- the frame of a comprehension's block -/
def frb (fr : Frm) (B : Hp) (S0 : Addr → Prop) : Frm := { ow := fr.ow, hd := fr.hd, hp := fr.hp, B := B, S0 := S0, W := fun _ _ _ _ => False }

def lcL (mg : D → Env → Option Env) (mt : Env → Rs Bool) (me : Env → Rs D) (vs : List Nat) : List D → List D → Env → Rs (List D)
  | [], acc, ρ => .ok acc ρ
  | d :: ds, acc, ρ => match mg d (wipeE ρ vs) with
    | none => .stuck
    | some ρ1 => match mt ρ1 with
      | .ok true ρ2 => match me ρ2 with
        | .ok y ρ3 => lcL mg mt me vs ds (acc ++ [y]) ρ3
        | _ => .stuck
      | .ok false ρ2 => lcL mg mt me vs ds acc ρ2
      | _ => .stuck
def eLc (mi : Env → Rs (List D)) (mg : D → Env → Option Env) (mt : Env → Rs Bool) (me : Env → Rs D) (vs : List Nat) : Env → Rs D := fun ρ => (mi ρ).bind fun ds ρ1 =>
  if ds.length ≤ 1000000 then (match lcL mg mt me vs ds [] ρ1 with
    | .ok l ρ2 => .ok (.lst l) (restE ρ1 ρ2 vs)
    | _ => .stuck) else .stuck
def lYes : Env → Rs Bool := fun ρ => .ok true ρ
theorem et_yes : ET Γ fr tYes lYes := fun σ ρ G S c Q p => PostG.give p (Same.refl _) c rfl

/-- the core: the new list at D stays hidden -/
theorem lc_run {ks vs : List Nat} {g : TG} {tt : TT} {J : It} {mg : D → Env → Option Env} {mt : Env → Rs Bool} {ds : List D} {ρ1 : Env} {G1 : Hp} {S1 : Addr → Prop} {Dl : Addr} {Qd : Hp → Prop} {l : List D} {ρe : Env}
    (c1 : Co Γ fr σ ρ1 G1 S1) (hJ : JW Γ J ds (hide S1 G1)) (hD : G1 Dl = none) (hlen : ds.length ≤ 1000000) (hr : lcL mg mt m vs ds [] ρ1 = .ok l ρe)
    (hg : ∀ B S0, GV Γ (frb fr B S0) ks g mg) (ht : ∀ B S0, ET Γ (frb fr B S0) tt mt) (he : ∀ B S0, EV Γ (frb fr B S0) te m) (hk : ∀ k ∈ ks, k ∈ vs) (hv : fr.hd = false ∨ 0 ∉ vs) (hov : ∀ k ∈ fr.ow, k ∉ vs) (hxs : fr.xs = none)
    (hQ : ∀ G2 S2 xs, Same (hide S1 G1) (hide S2 G2) → Co Γ fr σ (restE ρ1 ρe vs) G2 S2 → S2 Dl → G2 Dl = some (.lst xs) → IsDs Γ (hide S2 G2) xs l → (∀ i d, i ∈ fr.ow → (restE ρ1 ρe vs)[i]? = some (some d) → σ[i]? ≠ some (some (.ref Dl))) → Qd G2) :
    ∃ W : Nat → Nat → Hp → Prop, (∃ m, W 0 m (upd G1 Dl (.lst []))) ∧ ∀ i m H, W i m H → (J.stop i H ∧ Qd H) ∨ (J.go i H ∧ ∃ Nx : Hp → Prop, (∀ H', Nx H' → ∃ m', m' < m ∧ W (i + 1) m' H') ∧ ∀ x H', J.yld i H x H' → g x (L2.wipe σ vs) H' fun σ2 H2 => L2.wipe σ2 vs = L2.wipe σ vs ∧ tt σ2 H2 fun b H3 =>
      if b = true then te σ2 H3 fun y H4 => ∃ acc, H4 Dl = some (.lst acc) ∧ acc.length < sizeLine ∧ Nx (upd H4 Dl (.lst (acc ++ [y]))) else Nx H3) := by
  obtain ⟨n1, n2, n3⟩ := c1.newB hD
  -- the block's state
  let Inn : Nat → Hp → Prop := fun i G => ∃ ρ' S' accV accD, Co Γ (frb fr (upd fr.B Dl (.lst accV)) (fun a => fr.S0 a ∨ a = Dl)) (L2.wipe σ vs) (wipeE ρ' vs) G S' ∧ ρ'.length = ρ1.length ∧ Same (hide S1 G1) (hide S' G) ∧ G Dl = some (.lst accV) ∧ IsDs Γ (hide S' G) accV accD ∧ accD.length ≤ i ∧
    lcL mg mt m vs (ds.drop i) accD ρ' = .ok l ρe
  refine ⟨fun i k G => k = ds.length - i ∧ i ≤ ds.length ∧ Inn i G, ⟨_, rfl, Nat.zero_le _, ρ1, fun a => S1 a ∨ a = Dl, [], [], ?_, rfl, hideMore_le hD, upd_same, .nil, Nat.le_refl _, hr⟩, ?_⟩
  · have c2 := (c1.hideMore (o := .lst []) hD).wipe hv hxs
    have own' := c1.newOwn hD
    exact {
      len := c2.len
      dom := c2.dom
      sub := fun a h => h.elim (fun z => .inl (c1.sub a z)) .inr
      keep := fun a o h1 h2 => by
        by_cases ha : a = Dl
        · subst ha
          have h2' : upd fr.B a (.lst []) a = some o := h2
          rw [upd_same] at h2'
          rw [upd_same]
          exact h2'
        · have h2' : upd fr.B Dl (.lst []) a = some o := h2
          rw [upd_ne ha] at h2'
          exact c2.keep a o h1 h2'
      hs0 := fun e => .inl (c1.hs0 e)
      xsl := fun q h => nomatch h
      pin := c2.pin
      sh := c2.sh
      own := fun j d h1 h2 => by
        obtain ⟨q, xs, l, h3, h4, h5, h6, h7, h8⟩ := c2.own j d h1 h2
        have hq : q ≠ Dl := fun z => by
          subst z
          have e1 := (wipeE_some h2).1
          have e2 : σ[j]? = some (some (.ref q)) := by rw [← wipe_get (wipeE_some h2).2]; exact h4
          exact own' j d h1 e1 e2
        refine ⟨q, xs, l, h3, h4, h5, h6, h7, h8.elim .inl fun z => .inr ⟨?_, fun y => y.elim z.2 hq⟩⟩
        show upd fr.B Dl (.lst []) q = none
        rw [upd_ne hq]; exact z.1
      inj := c2.inj }
  · rintro i k G2 ⟨rfl, hle, ρ2, S2, accV, accD, c2, hl2, e2, hG2, hA, hAl, hrun⟩
    obtain ⟨hstop, hgo⟩ := hJ i G2 S2 e2 c2.dom
    by_cases hlt : i < ds.length
    · have hd : ds[i]? = some ds[i] := List.getElem?_eq_getElem hlt
      obtain ⟨go, yl⟩ := hgo _ hd
      rw [List.drop_eq_getElem_cons hlt] at hrun
      generalize ds[i] = d at hrun yl
      unfold lcL at hrun
      cases hm : mg d (wipeE ρ2 vs) with
      | none => rw [hm] at hrun; cases hrun
      | some ρ3 =>
        rw [hm] at hrun
        dsimp only at hrun
        refine .inr ⟨go, Inn (i + 1), fun H' h => ⟨_, by omega, rfl, hlt, h⟩, fun x G3 y => ?_⟩
        obtain ⟨e3, hx⟩ := yl x G3 y
        refine hg _ _ _ _ G3 S2 x d (c2.ext e3) hx ρ3 hm _ fun σ4 G4 S4 ag e4 c4 => ?_
        have hw : L2.wipe σ4 vs = L2.wipe σ vs := by
          rw [wipe_agree ag hk]
          apply List.ext_getElem?
          intro j
          by_cases hj : j ∈ vs
          · rw [wipe_in hj, wipe_in hj, wipe_length]
          · rw [wipe_get hj, wipe_get hj]
        refine ⟨hw, ?_⟩
        have e14 : Same (hide S2 G2) (hide S4 G4) := (hide_ext e3).trans e4
        -- in the block, wherever one stands
        have stay : ∀ {ρ5 : Env} {G5 : Hp} {S5 : Addr → Prop}, Co Γ (frb fr (upd fr.B Dl (.lst accV)) (fun a => fr.S0 a ∨ a = Dl)) σ4 ρ5 G5 S5 → G5 Dl = some (.lst accV) ∧ S5 Dl := fun {ρ5 G5 S5} c5 =>
          ⟨c5.keep Dl _ (fun e => n3 e) upd_same, c5.sub Dl (.inr rfl)⟩
        refine ht _ _ σ4 ρ3 G4 S4 c4 _ ?_
        generalize hmt : mt ρ3 = r at hrun ⊢
        cases r with
        | stuck => cases hrun
        | exc _ _ => cases hrun
        | ok b ρ5 =>
          intro b' G5 S5 e5 c5 eb
          subst eb
          cases b' with
          | false =>
            have hrun' : lcL mg mt m vs (ds.drop (i + 1)) accD ρ5 = .ok l ρe := hrun
            have cw := c5.wipe (vs := vs) hv rfl
            rw [hw] at cw
            refine ⟨ρ5, S5, accV, accD, cw, ?_, (e2.trans e14).trans e5, (stay c5).1, hA.le (e14.trans e5), Nat.le_succ_of_le hAl, hrun'⟩
            have z1 := c5.len
            have z2 := c2.len
            rw [wipe_length, wipeE_length] at z2
            have z3 : σ4.length = σ.length := by
              have := congrArg List.length hw
              rw [wipe_length, wipe_length] at this
              exact this
            omega
          | true =>
            have hrun' : (match m ρ5 with
              | .ok y ρ3 => lcL mg mt m vs (ds.drop (i + 1)) (accD ++ [y]) ρ3
              | _ => .stuck) = .ok l ρe := hrun
            refine he _ _ σ4 ρ5 G5 S5 c5 _ ?_
            generalize hme : m ρ5 = r at hrun' ⊢
            cases r with
            | stuck => cases hrun'
            | exc _ _ => cases hrun'
            | ok y ρ6 =>
              intro yv G6 S6 e6 c6 hy
              obtain ⟨s1, s2⟩ := stay c6
              have hA6 := hA.le ((e14.trans e5).trans e6)
              refine ⟨accV, s1, Nat.lt_of_lt_of_le (show accV.length < 1000000 by rw [hA.length]; omega) (size_ok (Nat.le_refl _)), ?_⟩
              have eh : hide S6 (upd G6 Dl (.lst (accV ++ [yv]))) = hide S6 G6 := by
                funext a
                unfold hide
                by_cases ha : S6 a
                · rw [if_pos ha, if_pos ha]
                · rw [if_neg ha, if_neg ha, upd_ne (fun z => ha (by rw [z]; exact s2))]
              have cw := c6.wipe (vs := vs) hv rfl
              rw [hw] at cw
              refine ⟨ρ6, S6, accV ++ [yv], accD ++ [y], ?_, ?_, ?_, upd_same, ?_, ?_, hrun'⟩
              · exact {
                  len := cw.len
                  dom := fun a h => by
                    by_cases ha : a = Dl
                    · subst ha; exact ⟨_, upd_same⟩
                    · rw [upd_ne ha]; exact cw.dom a h
                  sub := cw.sub
                  keep := fun a o h1 h2 => by
                    by_cases ha : a = Dl
                    · subst ha
                      have h2' : upd fr.B a (.lst (accV ++ [yv])) a = some o := h2
                      rw [upd_same] at h2'
                      rw [upd_same]
                      exact h2'
                    · have h2' : upd fr.B Dl (.lst (accV ++ [yv])) a = some o := h2
                      rw [upd_ne ha] at h2'
                      rw [upd_ne ha]
                      refine cw.keep a o h1 ?_
                      show upd fr.B Dl (.lst accV) a = some o
                      rw [upd_ne ha]
                      exact h2'
                  hs0 := cw.hs0
                  xsl := fun q h => nomatch h
                  pin := cw.pin
                  sh := fun j d' h1 h2 => by rw [eh]; exact cw.sh j d' h1 h2
                  own := fun j d' h1 h2 => by
                    rw [eh]
                    obtain ⟨q, xs, l', h3, h4, h5, h6, h7, h8⟩ := cw.own j d' h1 h2
                    have hq : q ≠ Dl := fun z => by
                      subst z
                      rcases h8 with ⟨b1, _, b3⟩ | ⟨_, b2⟩
                      · exact n3 b1 b3
                      · exact b2 (.inr rfl)
                    refine ⟨q, xs, l', h3, h4, h5, by rw [upd_ne hq]; exact h6, h7, h8.elim .inl fun z => .inr ⟨?_, z.2⟩⟩
                    show upd fr.B Dl (.lst (accV ++ [yv])) q = none
                    have z1 : upd fr.B Dl (.lst accV) q = none := z.1
                    rw [upd_ne hq] at z1 ⊢
                    exact z1
                  inj := cw.inj }
              · have z1 := c6.len
                have z2 := c2.len
                rw [wipe_length, wipeE_length] at z2
                have z3 : σ4.length = σ.length := by
                  have := congrArg List.length hw
                  rw [wipe_length, wipe_length] at this
                  exact this
                omega
              · rw [eh]; exact ((e2.trans e14).trans e5).trans e6
              · rw [eh]; exact hA6.append (.cons hy .nil)
              · rw [List.length_append, List.length_singleton]; omega
    · have e : ds.drop i = [] := List.drop_eq_nil_of_le (by omega)
      rw [e] at hrun
      cases hrun
      refine .inl ⟨hstop (by omega), hQ G2 S2 accV e2 ?_ (c2.sub Dl (.inr rfl)) hG2 hA ?_⟩
      · exact {
          len := by rw [restE_length, hl2]; exact c1.len
          dom := c2.dom
          sub := fun a h => c2.sub a (.inl h)
          keep := fun a o h1 h2 => by
            have ha : a ≠ Dl := fun z => by subst z; rw [n1] at h2; cases h2
            refine c2.keep a o h1 ?_
            show upd fr.B Dl (.lst accV) a = some o
            rw [upd_ne ha]; exact h2
          hs0 := c1.hs0
          xsl := fun q h => by rw [hxs] at h; cases h
          pin := c1.pin
          sh := fun j d' h1 h2 => by
            rcases restE_some h2 with ⟨_, h4⟩ | ⟨h3, h4⟩
            · obtain ⟨v, h5, h6⟩ := c1.sh j d' h1 h4
              exact ⟨v, h5, h6.le e2⟩
            · have h5 : (wipeE ρe vs)[j]? = some (some d') := by
                have : ∀ vs : List Nat, j ∉ vs → (wipeE ρe vs)[j]? = ρe[j]? := by
                  intro vs
                  induction vs with
                  | nil => intro _; rfl
                  | cons v vs ih =>
                    intro h
                    unfold wipeE
                    rw [List.getElem?_set_ne (fun e => h (by rw [e]; exact List.mem_cons_self))]
                    exact ih fun z => h (List.mem_cons_of_mem _ z)
                rw [this vs h3]; exact h4
              obtain ⟨v, h6, h7⟩ := c2.sh j d' h1 h5
              rw [wipe_get h3] at h6
              exact ⟨v, h6, h7⟩
          own := fun j d' h1 h2 => by
            rcases restE_some h2 with ⟨h3, _⟩ | ⟨h3, h4⟩
            · exact absurd h3 (hov j h1)
            · have h5 : (wipeE ρe vs)[j]? = some (some d') := by
                have : ∀ vs : List Nat, j ∉ vs → (wipeE ρe vs)[j]? = ρe[j]? := by
                  intro vs
                  induction vs with
                  | nil => intro _; rfl
                  | cons v vs ih =>
                    intro h
                    unfold wipeE
                    rw [List.getElem?_set_ne (fun e => h (by rw [e]; exact List.mem_cons_self))]
                    exact ih fun z => h (List.mem_cons_of_mem _ z)
                rw [this vs h3]; exact h4
              obtain ⟨q, xs, l', g3, g4, g5, g6, g7, g8⟩ := c2.own j d' h1 h5
              rw [wipe_get h3] at g4
              refine ⟨q, xs, l', g3, g4, g5, g6, g7, g8.elim .inl fun z => .inr ⟨?_, fun y => z.2 (.inl y)⟩⟩
              have hq : q ≠ Dl := fun e => z.2 (.inr e)
              have z1 : upd fr.B Dl (.lst accV) q = none := z.1
              rw [upd_ne hq] at z1
              exact z1
          inj := fun j k d' e' p' h1 h2 h3 h4 h5 h6 h7 => by
            have lift : ∀ {j : Nat} {d' : D}, j ∈ fr.ow → (restE ρ1 ρe vs)[j]? = some (some d') → (wipeE ρe vs)[j]? = some (some d') ∧ j ∉ vs := by
              intro j d' h1 h2
              rcases restE_some h2 with ⟨h3, _⟩ | ⟨h3, h4⟩
              · exact absurd h3 (hov j h1)
              · have : ∀ vs : List Nat, j ∉ vs → (wipeE ρe vs)[j]? = ρe[j]? := by
                  intro vs
                  induction vs with
                  | nil => intro _; rfl
                  | cons v vs ih =>
                    intro h
                    unfold wipeE
                    rw [List.getElem?_set_ne (fun e => h (by rw [e]; exact List.mem_cons_self))]
                    exact ih fun z => h (List.mem_cons_of_mem _ z)
                exact ⟨by rw [this vs h3]; exact h4, h3⟩
            obtain ⟨q1, q2⟩ := lift h1 h4
            obtain ⟨q3, q4⟩ := lift h2 h5
            exact c2.inj j k d' e' p' h1 h2 h3 q1 q3 (by rw [wipe_get q2]; exact h6) (by rw [wipe_get q4]; exact h7) }
      · intro j d' h1 h2 h3
        rcases restE_some h2 with ⟨h4, _⟩ | ⟨h4, h5⟩
        · exact absurd h4 (hov j h1)
        · have h6 : (wipeE ρe vs)[j]? = some (some d') := by
            have : ∀ vs : List Nat, j ∉ vs → (wipeE ρe vs)[j]? = ρe[j]? := by
              intro vs
              induction vs with
              | nil => intro _; rfl
              | cons v vs ih =>
                intro h
                unfold wipeE
                rw [List.getElem?_set_ne (fun e => h (by rw [e]; exact List.mem_cons_self))]
                exact ih fun z => h (List.mem_cons_of_mem _ z)
            rw [this vs h4]; exact h5
          obtain ⟨q, xs, l', g3, g4, g5, g6, g7, g8⟩ := c2.own j d' h1 h6
          rw [wipe_get h4, h3] at g4
          cases g4
          rcases g8 with ⟨b1, _, b3⟩ | ⟨_, b2⟩
          · exact n3 b1 b3
          · exact b2 (.inr rfl)
variable {ks vs : List Nat} {wi : TI} {g : TG} {tt : TT} {mi : Env → Rs (List D)} {mg : D → Env → Option Env} {mt : Env → Rs Bool}
theorem evf_lc (hi : IV Γ fr wi mi) (hg : ∀ B S0, GV Γ (frb fr B S0) ks g mg) (ht : ∀ B S0, ET Γ (frb fr B S0) tt mt) (he : ∀ B S0, EV Γ (frb fr B S0) te m) (hk : ∀ k ∈ ks, k ∈ vs := by decide) (hv : fr.hd = false ∨ 0 ∉ vs := by first | exact Or.inl rfl | exact Or.inr (by decide)) (hov : (fr.ow.all fun k => !vs.contains k) = true := by rfl) (hxs : fr.xs = none := by rfl) :
    EVF Γ fr (tLc wi g tt te vs) (eLc mi mg mt m vs) := fun σ ρ G S c Q p => by
  refine hi.stepF c p fun ds ρ1 J G1 S1 _ c1 hJ p1 => ?_
  intro Dl hD
  obtain ⟨n1, n2, n3⟩ := c1.newB hD
  by_cases hlen : ds.length ≤ 1000000
  · rw [if_pos hlen] at p1
    generalize hr : lcL mg mt m vs ds [] ρ1 = r at p1
    cases r with
    | stuck => exact p1.elim
    | exc _ _ => exact p1.elim
    | ok l ρe => exact lc_run c1 hJ hD hlen hr hg ht he hk hv (allown hov) hxs fun G2 S2 xs e2 c2 h1 h2 h3 h4 => p1 Dl xs l G2 S2 rfl e2 c2 h1 h2 h3 n1 n2 n3 h4
  · rw [if_neg hlen] at p1
    exact p1.elim
/-- a new list, shared from then on -/
theorem ev_of (h : EVF Γ fr te m) : EV Γ fr te m := fun σ ρ G S c Q p => by
  refine h σ ρ G S c Q ?_
  generalize m ρ = r at p ⊢
  cases r with
  | stuck => exact p
  | exc _ _ => exact p
  | ok d ρ' =>
    intro q xs l G1 S1 ed e1 c1 hS hG hD hB hS0 hh hn
    subst ed
    have le : Same (hide S1 G1) (hide (fun a => S1 a ∧ a ≠ q) G1) := hide_less fun a h => h.1
    refine PostG.give p (e1.trans le) (S' := fun a => S1 a ∧ a ≠ q) ?_ (.lst (hide_of (fun z => z.2 rfl) hG) (hD.le le))
    exact {
      len := c1.len
      dom := fun a h => c1.dom a h.1
      sub := fun a h => ⟨c1.sub a h, fun z => hS0 (by rw [← z]; exact h)⟩
      keep := c1.keep
      hs0 := c1.hs0
      pin := c1.pin
      xsl := fun q h => ⟨(c1.xsl q h).1, (c1.xsl q h).2.le le⟩
      sh := fun j d' h1 h2 => by
        obtain ⟨v, h3, h4⟩ := c1.sh j d' h1 h2
        exact ⟨v, h3, h4.le le⟩
      own := fun j d' h1 h2 => by
        obtain ⟨q', ys, l', g3, g4, g5, g6, g7, g8⟩ := c1.own j d' h1 h2
        exact ⟨q', ys, l', g3, g4, ⟨g5, fun z => hn j d' h1 h2 (by rw [← z]; exact g4)⟩, g6, g7.le le, g8⟩
      inj := c1.inj }
end
end Py

set_option Elab.async false
set_option linter.all false
set_option maxRecDepth 100000
set_option maxHeartbeats 2000000
namespace Py
open PySem L2
open PyProof.Rows (envOfC)

/-! ## 9. Defs -/
inductive Rf (α : Type) where
  | ok (a : α)
  | exc (e : D)
  | stuck
/-- a def that changes nothing of what it is handed -/
def spP (Γ : Gm) (n : Nat) (m : List D → Rf D) : Sp := fun vs G Q E => vs.length = n ∧ ∃ (S : Addr → Prop) (ds : List D), (∀ a, S a → ∃ o, G a = some o) ∧ IsDs Γ (hide S G) vs ds ∧ match m ds with
  | .ok d => ∀ v G', Same G G' → IsD Γ (hide S G') v d → Q v G'
  | .exc e => ∀ cls dx G', Same G G' → IsX Γ (hide S G') cls dx e → E cls dx G'
  | .stuck => False
/-- a def whose first argument is a list that it changes -/
def spH (Γ : Gm) (n : Nat) (m : List D → List D → Rf (D × List D)) : Sp := fun vs G Q E => vs.length = n ∧ ∃ (S : Addr → Prop) (p : Addr) (ws xs : List V) (l ds : List D), vs = .ref p :: ws ∧ (∀ a, S a → ∃ o, G a = some o) ∧ S p ∧ G p = some (.lst xs) ∧ IsDs Γ (hide S G) xs l ∧ IsDs Γ (hide S G) ws ds ∧ match m l ds with
  | .ok (d, l') => ∀ v G' xs', (∀ a o, a ≠ p → G a = some o → G' a = some o) → G' p = some (.lst xs') → IsDs Γ (hide S G') xs' l' → IsD Γ (hide S G') v d → Q v G'
  | .exc e => False
  | .stuck => False
/-- a def that hands back a new list, its own from then on -/
def spN (Γ : Gm) (n : Nat) (m : List D → Rf D) : Sp := fun vs G Q E => vs.length = n ∧ ∃ (S : Addr → Prop) (ds : List D), (∀ a, S a → ∃ o, G a = some o) ∧ IsDs Γ (hide S G) vs ds ∧ match m ds with
  | .ok d => ∀ p G' xs l, d = .lst l → G p = none → Same G G' → G' p = some (.lst xs) → IsDs Γ (hide (fun a => S a ∨ a = p) G') xs l → Q (.ref p) G'
  | .exc e => False
  | .stuck => False
def entry (n : Nat) (ds : List D) : Env := ds.map some ++ List.replicate (n - ds.length) none
def runF (n : Nat) (m : Env → Out) (ds : List D) : Rf D := match m (entry n ds) with
  | .nx _ => .ok .non
  | .ret d _ => .ok d
  | .exc e _ => .exc e
  | _ => .stuck
def runH (n : Nat) (m : Env → Out) (l ds : List D) : Rf (D × List D) := match m (entry n (.lst l :: ds)) with
  | .nx ρ => match ownL ρ 0 with
    | some l' => .ok (.non, l')
    | none => .stuck
  | .ret d ρ => match ownL ρ 0 with
    | some l' => .ok (d, l')
    | none => .stuck
  | _ => .stuck
theorem entry_some {n : Nat} {ds : List D} {i : Nat} {d : D} (h : (entry n ds)[i]? = some (some d)) : ds[i]? = some d := by
  unfold entry at h
  by_cases hi : i < ds.length
  · rw [List.getElem?_append_left (by simpa using hi), List.getElem?_map] at h
    cases e : ds[i]? with
    | none => rw [e] at h; cases h
    | some x => rw [e] at h; cases h; rfl
  · rw [List.getElem?_append_right (by simpa using hi), List.getElem?_replicate] at h
    split at h <;> cases h
theorem start_get {N : List Str} {vs : List V} {i : Nat} {v : V} (h : vs[i]? = some v) : (L2.start N vs)[i]? = some (some v) := by
  have hi : i < vs.length := (List.getElem?_eq_some_iff.mp h).1
  unfold L2.start
  rw [List.getElem?_append_left (by simpa using hi), List.getElem?_map, h]
  rfl
section
variable {Γ : Gm} {P : Program} {w : World} {mg : Str → Option Value} {base : Heap}
theorem okP {dvs : List V} {x qual : Str} {st : Stmt} {f : Addr} {fd : FuncData} {N ps : List Str} {k : Nat} (ow : List Nat) (m : Env → Out) (F : FunD Γ.K x qual (defArgs st) (defBody st) (defScope st) dvs [] f fd) (S : FnScope N ps (defScope st)) (how : ∀ i ∈ ow, ps.length ≤ i)
    (hbody : ∀ (cdv : Value) (A : Around) (outer : List PySem.Env) (s : Shared) (H : Hp) (E : XK) (S0 : Addr → Prop), Room k (A.deeper (envOfC qual (defScope st) s.heap.objs.size f cdv)) →
      ∃ t, PSs (cxOf (L2.CX P w) P w Γ.K mg base N qual (defScope st) f cdv A outer s H E) (defBody st) t ∧ SV Γ { ow := ow, hd := false, hp := 0, B := H, S0 := S0, W := fun cls d _ H => E cls d H } t m) :
    FnOk P w Γ.K mg base (L2.CX P w) (k + 1) f fd ps (spP Γ ps.length (runF N.length m)) := by
  refine F.ok (CX := L2.CX P w) S (fun vs H Q E h => h.1) (fun cdv A outer s H vs Q E hr h => ?_)
  obtain ⟨hn, S0, ds, dom, hv, hq⟩ := h
  obtain ⟨t, ht, hs⟩ := hbody cdv A outer s H E S0 hr
  refine ⟨t, ht, hs (L2.start N vs) (entry N.length ds) H S0 ?_ _ ?_⟩
  · exact {
      len := by unfold L2.start entry; simp only [List.length_append, List.length_map, List.length_replicate]; rw [hv.length]
      dom := dom
      sub := fun _ h => h
      keep := fun _ _ _ h => h
      pin := fun e => by cases e
      hs0 := fun e => by cases e
      xsl := fun q h => nomatch h
      sh := fun i d _ h => by
        obtain ⟨v, h1, h2⟩ := hv.get (entry_some h)
        exact ⟨v, start_get h1, h2⟩
      own := fun i d h1 h2 => by
        have h3 := (List.getElem?_eq_some_iff.mp (entry_some h2)).1
        have h4 := how i h1
        rw [← hv.length, hn] at h3
        omega
      inj := fun i j d e p h1 _ _ h2 => by
        have h3 := (List.getElem?_eq_some_iff.mp (entry_some h2)).1
        have h4 := how i h1
        rw [← hv.length, hn] at h3
        omega }
  · unfold runF at hq
    generalize m (entry N.length ds) = r at hq ⊢
    cases r with
    | nx ρ => exact fun σ' G' S' e c => hq .non G' (fun a o h => c.keep a o (fun z => by cases z) h) .non
    | ret d ρ => exact fun v σ' G' S' e c hd => hq v G' (fun a o h => c.keep a o (fun z => by cases z) h) (hd.le (hide_less c.sub))
    | exc e ρ => exact fun cls dx σ' G' S' _ c hx => hq cls dx G' (fun a o h => c.keep a o (fun z => by cases z) h) (hx.le (hide_less c.sub))
    | brk _ => exact hq.elim
    | ct _ => exact hq.elim
    | stuck => exact hq
theorem okH {dvs : List V} {x qual : Str} {st : Stmt} {f : Addr} {fd : FuncData} {N ps : List Str} {k : Nat} (ow : List Nat) (m : Env → Out) (F : FunD Γ.K x qual (defArgs st) (defBody st) (defScope st) dvs [] f fd) (S : FnScope N ps (defScope st)) (h0 : 0 ∈ ow) (how : ∀ i ∈ ow, i = 0 ∨ ps.length ≤ i)
    (hbody : ∀ (cdv : Value) (A : Around) (outer : List PySem.Env) (s : Shared) (H : Hp) (E : XK) (S0 : Addr → Prop) (p : Addr), Room k (A.deeper (envOfC qual (defScope st) s.heap.objs.size f cdv)) →
      ∃ t, PSs (cxOf (L2.CX P w) P w Γ.K mg base N qual (defScope st) f cdv A outer s H E) (defBody st) t ∧ SV Γ { ow := ow, hd := true, hp := p, B := H, S0 := S0, W := fun cls d _ H => E cls d H } t m) :
    FnOk P w Γ.K mg base (L2.CX P w) (k + 1) f fd ps (spH Γ ps.length (runH N.length m)) := by
  refine F.ok (CX := L2.CX P w) S (fun vs H Q E h => h.1) (fun cdv A outer s H vs Q E hr h => ?_)
  obtain ⟨hn, S0, p, ws, xs, l, ds, rfl, dom, hS, hG, hx, hv, hq⟩ := h
  obtain ⟨t, ht, hs⟩ := hbody cdv A outer s H E S0 p hr
  have fin : ∀ {σ' : L2.St} {ρ' : Env} {G' : Hp} {S' : Addr → Prop} {l' : List D}, Co Γ { ow := ow, hd := true, hp := p, B := H, S0 := S0, W := fun cls d _ H => E cls d H } σ' ρ' G' S' → ownL ρ' 0 = some l' →
      (∀ a o, a ≠ p → H a = some o → G' a = some o) ∧ ∃ xs', G' p = some (.lst xs') ∧ IsDs Γ (hide S0 G') xs' l' := fun {σ' ρ' G' S' l'} c e => by
    refine ⟨fun a o h1 h2 => c.keep a o (fun _ => h1) h2, ?_⟩
    obtain ⟨q, ys, g1, g2, g3, g4, _⟩ := c.ownAt h0 e
    have g5 := c.pin rfl
    rw [g1] at g5
    cases g5
    exact ⟨ys, g3, g4.le (hide_less c.sub)⟩
  refine ⟨t, ht, hs (L2.start N (.ref p :: ws)) (entry N.length (.lst l :: ds)) H S0 ?_ _ ?_⟩
  · exact {
      len := by unfold L2.start entry; simp only [List.length_append, List.length_map, List.length_replicate, List.length_cons]; rw [hv.length]
      dom := dom
      sub := fun _ h => h
      keep := fun _ _ _ h => h
      pin := fun _ => start_get rfl
      hs0 := fun _ => hS
      xsl := fun q h => nomatch h
      sh := fun i d h h' => by
        have h1 := entry_some h'
        cases i with
        | zero => exact absurd h0 h
        | succ i =>
          obtain ⟨v, h1, h2⟩ := hv.get (i := i) (by simpa using h1)
          exact ⟨v, start_get (by simpa using h1), h2⟩
      own := fun i d h1 h2 => by
        rcases how i h1 with rfl | h4
        · have h3 := entry_some h2
          cases h3
          exact ⟨p, xs, l, rfl, start_get rfl, hS, hG, hx, .inl ⟨rfl, rfl, rfl⟩⟩
        · have h3 := (List.getElem?_eq_some_iff.mp (entry_some h2)).1
          rw [List.length_cons, ← hv.length] at h3
          rw [List.length_cons] at hn
          omega
      inj := fun i j d e p h1 h1' hne h2 h2' => by
        have key : ∀ {i : Nat} {d : D}, i ∈ ow → (entry N.length (.lst l :: ds))[i]? = some (some d) → i = 0 := fun {i d} h1 h2 => by
          rcases how i h1 with h4 | h4
          · exact h4
          · have h3 := (List.getElem?_eq_some_iff.mp (entry_some h2)).1
            rw [List.length_cons, ← hv.length] at h3
            rw [List.length_cons] at hn
            omega
        have e1 := key h1 h2
        have e2 := key h1' h2'
        exact absurd (e1.trans e2.symm) hne }
  · unfold runH at hq
    generalize m (entry N.length (.lst l :: ds)) = r at hq ⊢
    cases r with
    | nx ρ =>
      dsimp only at hq
      intro σ' G' S' e c
      cases ho : ownL ρ 0 with
      | none => rw [ho] at hq; exact hq.elim
      | some l' =>
        rw [ho] at hq
        obtain ⟨f1, xs', f2, f3⟩ := fin c ho
        exact hq .non G' xs' f1 f2 f3 .non
    | ret d ρ =>
      dsimp only at hq
      intro v σ' G' S' e c hd
      cases ho : ownL ρ 0 with
      | none => rw [ho] at hq; exact hq.elim
      | some l' =>
        rw [ho] at hq
        obtain ⟨f1, xs', f2, f3⟩ := fin c ho
        exact hq v G' xs' f1 f2 f3 (hd.le (hide_less c.sub))
    | exc e ρ => exact hq.elim
    | brk _ => exact hq.elim
    | ct _ => exact hq.elim
    | stuck => exact hq
end

/-- a def that ends by handing back a list that it has made: the list stays hidden -/
def SN (Γ : Gm) (fr : Frm) (t : TS) (m : Env → Out) : Prop := ∀ σ ρ G S, Co Γ fr σ ρ G S → ∀ E : Ends, (match m ρ with
  | .nx ρ' => ∀ σ' G' S', Same (hide S G) (hide S' G') → Co Γ fr σ' ρ' G' S' → E.nx σ' G'
  | .ret d ρ' => ∀ p xs l σ' G' S', d = .lst l → Same (hide S G) (hide S' G') → Co Γ fr σ' ρ' G' S' → S' p → G' p = some (.lst xs) → IsDs Γ (hide S' G') xs l → fr.B p = none → ¬ fr.S0 p → E.rt (.ref p) G'
  | _ => False) → t E σ G
/-! ## 10. Calls -/
def Rf.to {α : Type} (r : Rf α) (ρ : Env) : Rs α := match r with
  | .ok d => .ok d ρ
  | .exc e => .exc e ρ
  | .stuck => .stuck
def eCall (n : Nat) (m : List D → Rf D) (dd : List D) (ma : Env → Rs (List D)) : Env → Rs D := fun ρ => (ma ρ).bind fun ds ρ1 => if (ds ++ dd).length = n then (m (ds ++ dd)).to ρ1 else .stuck
def eCallN (n : Nat) (m : List D → Rf D) (dd : List D) (ma : Env → Rs (List D)) : Env → Rs D := fun ρ => (ma ρ).bind fun ds ρ1 => if (ds ++ dd).length = n then (match m (ds ++ dd) with
  | .ok d => .ok d ρ1
  | _ => .stuck) else .stuck
def eCallH (i n : Nat) (m : List D → List D → Rf (D × List D)) (ma : Env → Rs (List D)) : Env → Rs D := fun ρ => match ownL ρ i with
  | none => .stuck
  | some _ => (ma ρ).bind fun ds ρ1 => if ds.length + 1 = n then (match ownL ρ1 i with
    | none => .stuck
    | some l => match m l ds with
      | .ok (d, l') => .ok d (ρ1.set i (some (.lst l')))
      | _ => .stuck) else .stuck
section
variable {Γ : Gm} {fr : Frm} {σ : L2.St} {ρ : Env} {G G' : Hp} {S S' : Addr → Prop} {te : TE} {m : Env → Rs D} {i n : Nat} {ta : TA} {ma : Env → Rs (List D)}
theorem ev_call {f : List D → Rf D} {dvs : List V} {dd : List D} (ha : EA Γ fr ta ma) (hd : ∀ H, IsDs Γ H dvs dd) : EV Γ fr (tCallSD (spP Γ n f) dvs (WE fr.W) ta) (eCall n f dd ma) := fun σ ρ G S c Q p => by
  refine ha.step c p fun ds ρ1 vs G1 S1 _ c1 hx p1 => ?_
  have p2 : PostG (fun H v d => IsD Γ H v d) Γ fr σ G1 S1 Q (if (ds ++ dd).length = n then (f (ds ++ dd)).to ρ1 else .stuck) := p1
  by_cases hn : (ds ++ dd).length = n
  · rw [if_pos hn] at p2
    have hv := hx.append (hd (hide S1 G1))
    refine ⟨hv.length.trans hn, S1, ds ++ dd, c1.dom, hv, ?_⟩
    generalize f (ds ++ dd) = r at p2
    cases r with
    | ok d => exact fun v G' e h => p2 v G' S1 (hide_ext e) (c1.ext e) h
    | exc x => exact fun cls dx G' e h => p2 cls dx G' S1 (hide_ext e) (c1.ext e) h
    | stuck => exact p2
  · rw [if_neg hn] at p2
    exact p2.elim
theorem evf_call {f : List D → Rf D} {dvs : List V} {dd : List D} (ha : EA Γ fr ta ma) (hd : ∀ H, IsDs Γ H dvs dd) : EVF Γ fr (tCallSD (spN Γ n f) dvs (WE fr.W) ta) (eCallN n f dd ma) := fun σ ρ G S c Q p => by
  refine ha.stepF c p fun ds ρ1 vs G1 S1 _ c1 hx p1 => ?_
  by_cases hn : (ds ++ dd).length = n
  · rw [if_pos hn] at p1
    have hv := hx.append (hd (hide S1 G1))
    refine ⟨hv.length.trans hn, S1, ds ++ dd, c1.dom, hv, ?_⟩
    generalize f (ds ++ dd) = r at p1
    cases r with
    | ok d =>
      intro q G2 xs l ed hq e2 hG hD
      obtain ⟨n1, n2, n3⟩ := c1.newB hq
      have le : Same (hide S1 G1) (hide (fun a => S1 a ∨ a = q) G2) := fun a u h => by
        obtain ⟨h1, h2⟩ := hide_some.mp h
        exact hide_of (fun z => z.elim h1 (ne_of_none h2 hq)) (e2 _ _ h2)
      refine p1 q xs l G2 (fun a => S1 a ∨ a = q) ed le ?_ (.inr rfl) hG hD n1 n2 n3 (c1.newOwn hq)
      have c2 := c1.ext e2
      exact {
        len := c2.len
        dom := fun a h => by
          rcases h with h | rfl
          · exact c2.dom a h
          · exact ⟨_, hG⟩
        sub := fun a h => .inl (c2.sub a h)
        keep := c2.keep
        pin := c2.pin
        hs0 := c2.hs0
        xsl := fun q h => ⟨(c1.xsl q h).1, (c1.xsl q h).2.le le⟩
        sh := fun i d h1 h2 => by
          obtain ⟨v, h3, h4⟩ := c1.sh i d h1 h2
          exact ⟨v, h3, h4.le le⟩
        own := fun i d h1 h2 => by
          obtain ⟨q', ys, l', h3, h4, h5, h6, h7, h8⟩ := c1.own i d h1 h2
          exact ⟨q', ys, l', h3, h4, .inl h5, e2 _ _ h6, h7.le le, h8⟩
        inj := c2.inj }
    | exc x => exact p1.elim
    | stuck => exact p1
  · rw [if_neg hn] at p1
    exact p1.elim
end
end Py

set_option Elab.async false
set_option linter.all false
set_option maxRecDepth 100000
set_option maxHeartbeats 2000000
namespace Py
open PySem L2
open PyProof.Rows (envOfC)

section
variable {Γ : Gm} {fr : Frm} {σ : L2.St} {ρ : Env} {G G' : Hp} {S S' : Addr → Prop} {te : TE} {m : Env → Rs D} {i n : Nat} {ta : TA} {ma : Env → Rs (List D)}
theorem ev_callH {f : List D → List D → Rf (D × List D)} (ha : EA Γ fr ta ma) (hi : fr.isOwn i = true := by rfl) : EV Γ fr (tCallSD (spH Γ n f) [] (WE fr.W) (tCons (tVar i) ta)) (eCallH i n f ma) := fun σ ρ G S c Q p => by
  have hi : i ∈ fr.ow := isown hi
  unfold eCallH at p
  cases ho : ownL ρ i with
  | none => rw [ho] at p; exact p.elim
  | some l0 =>
    rw [ho] at p
    obtain ⟨q, xs0, h4, h5, h6, h7, h8⟩ := c.ownAt hi ho
    refine ⟨.ref q, h4, ?_⟩
    refine ha.step c p fun ds ρ1 vs G1 S1 _ c1 hx p1 => ?_
    have p2 : PostG (fun H v d => IsD Γ H v d) Γ fr σ G1 S1 Q (if ds.length + 1 = n then (match ownL ρ1 i with
      | none => .stuck
      | some l => match f l ds with
        | .ok (d, l') => .ok d (ρ1.set i (some (.lst l')))
        | _ => .stuck) else .stuck) := p1
    by_cases hn : ds.length + 1 = n
    · rw [if_pos hn] at p2
      cases ho1 : ownL ρ1 i with
      | none => rw [ho1] at p2; exact p2.elim
      | some l =>
        rw [ho1] at p2
        obtain ⟨q1, xs, g4, g5, g6, g7, g8⟩ := c1.ownAt hi ho1
        rw [h4] at g4
        cases g4
        have p3 : PostG (fun H v d => IsD Γ H v d) Γ fr σ G1 S1 Q (match f l ds with
          | .ok (d, l') => .ok d (ρ1.set i (some (.lst l')))
          | _ => .stuck) := p2
        refine ⟨?_, S1, q, vs, xs, l, ds, by rw [List.append_nil], c1.dom, g5, g6, g7, hx, ?_⟩
        · rw [List.append_nil, List.length_cons, hx.length]; exact hn
        · generalize f l ds = r at p3
          cases r with
          | ok dl =>
            obtain ⟨d, l'⟩ := dl
            intro v G2 xs' k1 k2 k3 k4
            obtain ⟨Gz, em1, em2⟩ : ∃ Gz : Hp, Gz q = G1 q ∧ ∀ a, a ≠ q → Gz a = G2 a := ⟨fun a => if a = q then G1 q else G2 a, if_pos rfl, fun a h => if_neg h⟩
            have e1 : Same G1 Gz := fun a o h => by
              by_cases ha : a = q
              · subst ha; rw [em1]; exact h
              · rw [em2 a ha]; exact k1 a o ha h
            have e2 : upd Gz q (.lst xs') = G2 := by
              funext a
              by_cases ha : a = q
              · subst ha; rw [upd_same]; exact k2.symm
              · rw [upd_ne ha, em2 a ha]
            have e3 : hide S1 Gz = hide S1 G2 := by
              funext a
              unfold hide
              by_cases ha : S1 a
              · rw [if_pos ha, if_pos ha]
              · have hne : a ≠ q := fun z => ha (by rw [z]; exact g5)
                rw [if_neg ha, if_neg ha, em2 a hne]
            obtain ⟨c3, eh⟩ := (c1.ext e1).write (xs' := xs') (l' := l') hi (ownL_of ho1) h4 (by rw [em1]; exact g6) g5 (by rw [e3]; exact k3) g8
            rw [e2] at c3
            exact p3 v G2 S1 (by rw [← e3]; exact hide_ext e1) c3 k4
          | exc x => exact p3
          | stuck => exact p3
    · rw [if_neg hn] at p2
      exact p2.elim
/-- f(), raising as wished -/
theorem pe_callSD0 {X : Cx} {CX : CXT} {k : Nat} {f : Addr} {fd : FuncData} {ps : List Str} {sp : Sp} {dvs : List V} {ds : List Value} {E : L2.St → XK} {x : Str} {p pos : Pos}
    (F : FnOk X.prog X.w X.K X.mg X.base CX k f fd ps sp) (hr : Room k X.A) (hg : Gl X x) (hm : X.mg x = some (.ref f)) (hk : PySem.W.keepIn X.K (.ref f) = true) (hb : Binds X.K fd ps ds) (hd : Vals dvs ds) (hx : ∀ σ, PassesAt CX X σ (E σ))
    (hdb : (x == ("__debug__" : Str)) = false := by decide) : PE X (.Call (.Name x p) [] [] pos) (tCallSD sp dvs E tNil) := by
  refine ⟨fun pins s σ H Q I h => ?_⟩
  refine wpAny_Call_Name_kw (ld_glob I hg hm ?_ hdb)
  exact PySem.W.callWith_K0 I.kIn hk (run_fnSD (us := []) F hr hb hd (hx σ) I .nil h)

/-! ## 11. Errors -/
def spI1 (C : Addr) (f : Str) : Sp := fun vs H Q _ => ∃ (a : Addr) (y : V), vs = [.ref a, y] ∧ H a = some (exo a C none) ∧ ∀ dx, H dx = none → dx ≠ a → Q .non (upd (upd H dx (exd dx [(f, y)])) a (exo a C (some dx)))
def spI2 (C : Addr) (f g : Str) : Sp := fun vs H Q _ => ∃ (a : Addr) (y z : V), vs = [.ref a, y, z] ∧ H a = some (exo a C none) ∧ ∀ dx, H dx = none → dx ≠ a → Q .non (upd (upd (upd H dx (exd dx [(f, y)])) a (exo a C (some dx))) dx (exd dx [(g, z), (f, y)]))
theorem ok_i1 {P : Program} {w : World} {K : PySem.W.Frag} {mg : Str → Option Value} {base : Heap} {C : Addr} {x qual p : Str} {st : Stmt} {f : Addr} {fd : FuncData} {fl : Str} (F : FunD K x qual (defArgs st) (defBody st) (defScope st) [] [] f fd) (S : FnScope ["self", p] ["self", p] (defScope st)) (T : OexC K C) (hno : PySem.W.findIn K (.ref C) fl = some none)
    (hb : ∀ (cdv : Value) (A : Around) (outer : List PySem.Env) (s : Shared) (H : Hp) (E : XK), PSs (cxOf (L2.CX P w) P w K mg base ["self", p] qual (defScope st) f cdv A outer s H E) (defBody st) (tOst K fl (tVar 0) (tVar 1))) :
    FnOk P w K mg base (L2.CX P w) 1 f fd ["self", p] (spI1 C fl) := by
  refine F.ok (CX := L2.CX P w) S (fun vs H Q E h => ?_) (fun cdv A outer s H vs Q E hr h => ?_)
  · obtain ⟨a, y, rfl, _⟩ := h; rfl
  · obtain ⟨a, y, rfl, ha, k⟩ := h
    exact ⟨_, hb cdv A outer s H E, y, rfl, .ref a, rfl, a, C, rfl, T, hno, .inl ⟨ha, fun dx h1 h2 => k dx h1 h2⟩⟩
theorem ok_i2 {P : Program} {w : World} {K : PySem.W.Frag} {mg : Str → Option Value} {base : Heap} {C : Addr} {x qual p p' : Str} {st : Stmt} {f : Addr} {fd : FuncData} {fl gl : Str} (F : FunD K x qual (defArgs st) (defBody st) (defScope st) [] [] f fd) (S : FnScope ["self", p, p'] ["self", p, p'] (defScope st)) (T : OexC K C) (hno : PySem.W.findIn K (.ref C) fl = some none) (hno' : PySem.W.findIn K (.ref C) gl = some none)
    (hb : ∀ (cdv : Value) (A : Around) (outer : List PySem.Env) (s : Shared) (H : Hp) (E : XK), PSs (cxOf (L2.CX P w) P w K mg base ["self", p, p'] qual (defScope st) f cdv A outer s H E) (defBody st) (tSeq (tOst K fl (tVar 0) (tVar 1)) (tOst K gl (tVar 0) (tVar 2)))) :
    FnOk P w K mg base (L2.CX P w) 1 f fd ["self", p, p'] (spI2 C fl gl) := by
  refine F.ok (CX := L2.CX P w) S (fun vs H Q E h => ?_) (fun cdv A outer s H vs Q E hr h => ?_)
  · obtain ⟨a, y, z, rfl, _⟩ := h; rfl
  · obtain ⟨a, y, z, rfl, ha, k⟩ := h
    refine ⟨_, hb cdv A outer s H E, y, rfl, .ref a, rfl, a, C, rfl, T, hno, .inl ⟨ha, fun dx h1 h2 => ?_⟩⟩
    exact ⟨z, rfl, .ref a, rfl, a, C, rfl, T, hno', .inr ⟨dx, _, upd_same, by rw [upd_ne h2, upd_same], by simp, k dx h1 h2⟩⟩
def sRaise1 (c : Nat) (f : Str) (m : Env → Rs D) : Env → Out := fun ρ => (m ρ).out fun d ρ1 => .exc (.ins c [f] [d]) ρ1
def sRaise2 (c : Nat) (f g : Str) (m1 m2 : Env → Rs D) : Env → Out := fun ρ => (m1 ρ).out fun d ρ1 => (m2 ρ1).out fun e ρ2 => .exc (.ins c [g, f] [e, d]) ρ2
theorem sv_raise1 {c : Nat} {f : Str} {W : WX} (h : EV Γ fr te m) (hW : fr.W = W) : SV Γ fr (fun _ σ H => tMkO (Γ.cl c) (spI1 (Γ.cl c) f) [] (tCons te tNil) σ H fun cls d H' => W cls d σ H') (sRaise1 c f m) := fun σ ρ G S co E p => by
  refine h.stepS co p fun d ρ1 x G1 S1 _ c1 hx p1 => ?_
  refine ⟨Nat.le_of_ble_eq_true rfl, fun a ha => ⟨a, x, rfl, upd_same, fun dx hdx hne => ⟨rfl, dx, _, upd_same, by rw [upd_ne hne, upd_same], ?_, ?_⟩⟩⟩
  · rw [upd_ne hne] at hdx; exact hdx
  · have hdx' : G1 dx = none := by rw [upd_ne hne] at hdx; exact hdx
    have e : Same G1 (upd (del (upd (upd (upd G1 a (exo a (Γ.cl c) none)) dx (exd dx [(f, x)])) a (exo a (Γ.cl c) (some dx))) a) dx (.xd [(f, x)])) := fun b o hb => by
      have n1 : b ≠ dx := ne_of_none hb hdx'
      have n2 : b ≠ a := ne_of_none hb ha
      rw [upd_ne n1, del_ne n2, upd_ne n2, upd_ne n1, upd_ne n2]; exact hb
    rw [← hW]
    refine p1 _ _ σ _ S1 (hide_ext e) (c1.ext e) ⟨c, [f], [d], rfl, rfl, .inr ⟨dx, [x], rfl, hide_of (c1.fresh hdx') upd_same, rfl, .cons (hx.le (hide_ext e)) .nil⟩⟩
theorem sv_raise2 {c : Nat} {f g : Str} {W : WX} {te2 : TE} {m2 : Env → Rs D} (h : EV Γ fr te m) (h2 : EV Γ fr te2 m2) (hW : fr.W = W) : SV Γ fr (fun _ σ H => tMkO (Γ.cl c) (spI2 (Γ.cl c) f g) [] (tCons te (tCons te2 tNil)) σ H fun cls d H' => W cls d σ H') (sRaise2 c f g m m2) := fun σ ρ G S co E p => by
  refine h.stepS co p fun d ρ1 x G1 S1 _ c1 hx p1 => ?_
  refine h2.stepS c1 p1 fun d2 ρ2 y G2 S2 e12 c2 hy p2 => ?_
  refine ⟨Nat.le_of_ble_eq_true rfl, fun a ha => ⟨a, x, y, rfl, upd_same, fun dx hdx hne => ⟨rfl, dx, _, by rw [upd_ne (Ne.symm hne), upd_same], upd_same, ?_, ?_⟩⟩⟩
  · rw [upd_ne hne] at hdx; exact hdx
  · have hdx' : G2 dx = none := by rw [upd_ne hne] at hdx; exact hdx
    have e : Same G2 (upd (del (upd (upd (upd (upd G2 a (exo a (Γ.cl c) none)) dx (exd dx [(f, x)])) a (exo a (Γ.cl c) (some dx))) dx (exd dx [(g, y), (f, x)])) a) dx (.xd [(g, y), (f, x)])) := fun b o hb => by
      have n1 : b ≠ dx := ne_of_none hb hdx'
      have n2 : b ≠ a := ne_of_none hb ha
      rw [upd_ne n1, del_ne n2, upd_ne n1, upd_ne n2, upd_ne n1, upd_ne n2]; exact hb
    rw [← hW]
    exact p2 _ _ σ _ S2 (hide_ext e) (c2.ext e) ⟨c, [g, f], [d2, d], rfl, rfl, .inr ⟨dx, [y, x], rfl, hide_of (c2.fresh hdx') upd_same, rfl, .cons (hy.le (hide_ext e)) (.cons ((hx.le e12).le (hide_ext e)) .nil)⟩⟩

/-! ### try .. except C as x -/
def frW (fr : Frm) (W : WX) : Frm := { ow := fr.ow, hd := fr.hd, hp := fr.hp, B := fr.B, S0 := fr.S0, W := W, xs := fr.xs }
def frS (fr : Frm) (q : XS) : Frm := { ow := fr.ow, hd := fr.hd, hp := fr.hp, B := fr.B, S0 := fr.S0, W := fun _ _ _ _ => False, xs := some q }
theorem Co.toW {W : WX} (c : Co Γ fr σ ρ G S) : Co Γ (frW fr W) σ ρ G S := ⟨c.len, c.dom, c.sub, c.keep, c.pin, c.hs0, c.xsl, c.sh, c.own, c.inj⟩
theorem Co.ofW {W : WX} (c : Co Γ (frW fr W) σ ρ G S) : Co Γ fr σ ρ G S := ⟨c.len, c.dom, c.sub, c.keep, c.pin, c.hs0, c.xsl, c.sh, c.own, c.inj⟩
theorem Co.gone {q : XS} (hxs : fr.xs = none) (c : Co Γ (frS fr q) σ ρ G S) (hi : q.i ∉ fr.ow) (hz : fr.hd = false ∨ q.i ≠ 0) : Co Γ fr (σ.set q.i none) (ρ.set q.i none) G S where
  len := by rw [List.length_set, List.length_set]; exact c.len
  dom := c.dom
  sub := c.sub
  keep := c.keep
  hs0 := c.hs0
  xsl := fun q h => by rw [hxs] at h; cases h
  pin := fun e => by
    rcases hz with hz | hz
    · rw [hz] at e; cases e
    · rw [List.getElem?_set_ne hz]; exact c.pin e
  sh := fun j d' h1 h2 => by
    rcases set_get h2 with ⟨_, _, e⟩ | ⟨hne, e⟩
    · cases e
    · rw [List.getElem?_set_ne (Ne.symm hne)]
      exact c.sh j d' h1 e
  own := fun j d' h1 h2 => by
    rcases set_get h2 with ⟨_, _, e⟩ | ⟨hne, e⟩
    · cases e
    · rw [List.getElem?_set_ne (Ne.symm hne)]
      exact c.own j d' h1 e
  inj := fun j k d' e p h1 h2 h3 h4 h5 h6 h7 => by
    rcases set_get h4 with ⟨_, _, z⟩ | ⟨n1, e1⟩
    · cases z
    · rcases set_get h5 with ⟨_, _, z⟩ | ⟨n2, e2⟩
      · cases z
      · rw [List.getElem?_set_ne (Ne.symm n1)] at h6
        rw [List.getElem?_set_ne (Ne.symm n2)] at h7
        exact c.inj j k d' e p h1 h2 h3 e1 e2 h6 h7
def behind (i : Nat) : Out → Out
  | .nx ρ => .nx (ρ.set i none)
  | .ret d ρ => .ret d (ρ.set i none)
  | .brk ρ => .brk (ρ.set i none)
  | .ct ρ => .ct (ρ.set i none)
  | _ => .stuck
def sTry (i : Nat) (isa : Nat → Option Bool) (mb : Env → Out) (mh : D → Env → Out) : Env → Out := fun ρ => match mb ρ with
  | .exc e ρ1 => match e with
    | .ins c ns l => match isa c with
      | some true => if i < ρ1.length then behind i (mh (.ins c ns l) (ρ1.set i none)) else .stuck
      | some false => .exc (.ins c ns l) ρ1
      | none => .stuck
    | _ => .stuck
  | r => r
theorem sv_try {C : Value} {tb : WX → TS} {ts : Addr → Value → Option Addr → TS} {mb : Env → Out} {mh : D → Env → Out} {isa : Nat → Option Bool} {Wo : WX} (hW : fr.W = Wo) (hb : ∀ W, SV Γ (frW fr W) (tb W) mb) (hs : ∀ q : XS, q.i = i → SV Γ (frS fr q) (ts q.a q.cls q.dx) (mh q.e))
    (hx : ∀ c b, isa c = some b → PySem.W.exmOne Γ.K (.ref (Γ.cl c)) C = some b) (hi : fr.notOwn i = true := by rfl) (hz : fr.hd = false ∨ i ≠ 0 := by first | exact Or.inl rfl | exact Or.inr (by decide)) (hxs : fr.xs = none := by rfl) :
    SV Γ fr (fun E σ H => tb (wAs Γ.K C i ts Wo E) E σ H) (sTry i isa mb mh) := fun σ ρ G S c E p => by
  refine hb _ σ ρ G S c.toW E ?_
  unfold sTry at p
  generalize mb ρ = r at p ⊢
  cases r with
  | nx ρ1 => exact fun σ' G' S' e c' => p σ' G' S' e c'.ofW
  | ret d ρ1 => exact fun v σ' G' S' e c' => p v σ' G' S' e c'.ofW
  | brk ρ1 => exact fun σ' G' S' e c' => p σ' G' S' e c'.ofW
  | ct ρ1 => exact fun σ' G' S' e c' => p σ' G' S' e c'.ofW
  | stuck => exact p
  | exc e ρ1 =>
    intro cls dx σ1 G1 S1 e1 c1 hX
    have c1 := c1.ofW
    cases e with
    | ins k ns l =>
      have p2 : PostS Γ fr G S E (match isa k with
        | some true => if i < ρ1.length then behind i (mh (.ins k ns l) (ρ1.set i none)) else .stuck
        | some false => .exc (.ins k ns l) ρ1
        | none => .stuck) := p
      have ecls : cls = .ref (Γ.cl k) := by
        obtain ⟨k', ns', l', h1, h2, _⟩ := hX
        cases h1
        exact h2
      cases hisa : isa k with
      | none => rw [hisa] at p2; exact p2.elim
      | some b =>
        rw [hisa] at p2
        refine ⟨b, by rw [ecls]; exact hx k b hisa, fun hb1 a ha => ?_, fun hb0 => ?_⟩
        · subst hb1
          have p3 : PostS Γ fr G S E (if i < ρ1.length then behind i (mh (.ins k ns l) (ρ1.set i none)) else .stuck) := p2
          by_cases hl : i < ρ1.length
          · rw [if_pos hl] at p3
            have hl' : i < σ1.length := by rw [c1.len]; exact hl
            have cs : Co Γ (frS fr ⟨i, a, cls, dx, .ins k ns l⟩) (σ1.set i (some (.ref a))) (ρ1.set i none) G1 S1 := {
              len := by rw [List.length_set, List.length_set]; exact c1.len
              dom := c1.dom
              sub := c1.sub
              keep := c1.keep
              hs0 := c1.hs0
              xsl := fun q h => by
                cases h
                exact ⟨List.getElem?_set_self hl', hX⟩
              pin := fun e => by
                rcases hz with hz | hz
                · have e' : fr.hd = true := e
                  rw [hz] at e'; cases e'
                · rw [List.getElem?_set_ne hz]; exact c1.pin e
              sh := fun j d' h1 h2 => by
                rcases set_get h2 with ⟨_, _, e⟩ | ⟨hne, e⟩
                · cases e
                · rw [List.getElem?_set_ne (Ne.symm hne)]
                  exact c1.sh j d' h1 e
              own := fun j d' h1 h2 => by
                rcases set_get h2 with ⟨_, _, e⟩ | ⟨hne, e⟩
                · cases e
                · rw [List.getElem?_set_ne (Ne.symm hne)]
                  exact c1.own j d' h1 e
              inj := fun j k d' e p h1 h2 h3 h4 h5 h6 h7 => by
                rcases set_get h4 with ⟨_, _, z⟩ | ⟨n1, e1⟩
                · cases z
                · rcases set_get h5 with ⟨_, _, z⟩ | ⟨n2, e2⟩
                  · cases z
                  · rw [List.getElem?_set_ne (Ne.symm n1)] at h6
                    rw [List.getElem?_set_ne (Ne.symm n2)] at h7
                    exact c1.inj j k d' e p h1 h2 h3 e1 e2 h6 h7 }
            refine hs ⟨i, a, cls, dx, .ins k ns l⟩ rfl _ _ G1 S1 cs _ ?_
            have p4 := PostS.mono e1 p3
            show PostS Γ _ G1 S1 _ (mh (.ins k ns l) (ρ1.set i none))
            generalize mh (.ins k ns l) (ρ1.set i none) = r at p4 ⊢
            cases r with
            | nx ρ2 => exact fun σ' G' S' e c' => p4 _ G' S' e (c'.gone hxs (nown hi) hz)
            | ret d ρ2 => exact fun v σ' G' S' e c' => p4 v _ G' S' e (c'.gone hxs (nown hi) hz)
            | brk ρ2 => exact fun σ' G' S' e c' => p4 _ G' S' e (c'.gone hxs (nown hi) hz)
            | ct ρ2 => exact fun σ' G' S' e c' => p4 _ G' S' e (c'.gone hxs (nown hi) hz)
            | exc _ _ => exact p4.elim
            | stuck => exact p4
          · rw [if_neg hl] at p3
            exact p3.elim
        · subst hb0
          rw [← hW]
          exact p2 cls dx σ1 G1 S1 e1 c1 hX
    | _ => exact p.elim
end
end Py

set_option Elab.async false
set_option linter.all false
set_option maxRecDepth 100000
set_option maxHeartbeats 2000000
namespace Py
open PySem L2

section
variable {Γ : Gm} {fr : Frm} {σ : L2.St} {ρ : Env} {G G' : Hp} {S S' : Addr → Prop} {te : TE} {m : Env → Rs D} {i n : Nat} {ta : TA} {ma : Env → Rs (List D)}
/-- x.f, x the error that the suite holds -/
def eXf (e : D) (c0 : Nat) (f : Str) : Env → Rs D := fun ρ => match e with
  | .ins c ns l => if c = c0 then Rs.ofOpt ((ns.zip l).lookup f) ρ else .stuck
  | _ => .stuck
theorem lookup_rel {H : Hp} : ∀ {ns : List Str} {xs : List V} {l : List D} {f : Str} {d : D}, ns.length = xs.length → IsDs Γ H xs l → (ns.zip l).lookup f = some d → ∃ v, (ns.zip xs).lookup f = some v ∧ IsD Γ H v d
  | [], _, _, _, _, _, _, h => by simp at h
  | n :: ns, [], _, _, _, e, _, _ => by simp at e
  | n :: ns, x :: xs, _, f, d, e, .cons (d := d0) r t, h => by
    simp only [List.zip_cons_cons, List.lookup_cons] at h ⊢
    cases hf : (f == n) with
    | true =>
      rw [hf] at h
      cases h
      exact ⟨x, rfl, r⟩
    | false =>
      rw [hf] at h
      exact lookup_rel (by simpa using e) t h
theorem ev_xf {q : XS} {c0 : Nat} {f : Str} (hq : fr.xs = some q) : EV Γ fr (tXf q.a q.cls q.dx (Γ.cl c0) f (tVar q.i)) (eXf q.e c0 f) := fun σ ρ G S c Q p => by
  obtain ⟨h1, k, ns, l, he, hc, hx⟩ := c.xsl q hq
  unfold eXf at p
  rw [he] at p
  have p2 : PostG (fun H v d => IsD Γ H v d) Γ fr σ G S Q (if k = c0 then Rs.ofOpt ((ns.zip l).lookup f) ρ else .stuck) := p
  by_cases hk : k = c0
  · rw [if_pos hk] at p2
    obtain ⟨d, hd, p3⟩ := PostG.giveO p2
    rcases hx with ⟨rfl, _, _⟩ | ⟨x, xs, hdx, hxd, hl, hD⟩
    · simp at hd
    · obtain ⟨v, hv, hr⟩ := lookup_rel hl hD hd
      exact ⟨.ref q.a, h1, rfl, by rw [hc, hk], x, ns.zip xs, v, hdx, hide_le _ _ hxd, hv, p3.give (Same.refl _) c hr⟩
  · rw [if_neg hk] at p2
    exact p2.elim

/-! ## 12. Built-ins -/
def dLen : List D → Option D
  | [.lst l] => some (.int l.length)
  | [.tup l] => some (.int l.length)
  | [.scr l] => some (.int l.length)
  | [.str s] => if s.length ≤ 1000000 then some (.int s.length) else none
  | _ => none
theorem cad_len : CaD Γ (fun xs H Q => ∃ x n, xs = [x] ∧ LenV Γ.K x H n ∧ Q (.int n) H) dLen := fun G S xs ds dz dom hx e Q q => by
  cases hx with
  | nil => cases e
  | cons r t =>
    cases t with
    | cons _ _ => cases r <;> cases e
    | nil =>
      cases r with
      | lst h1 h2 =>
        cases e
        exact ⟨_, _, rfl, .inl ⟨_, SqL.of (hide_le _ _ h1), rfl⟩, q _ G (Same.refl _) (by rw [h2.length]; exact .int _)⟩
      | tup h1 h2 =>
        cases e
        exact ⟨_, _, rfl, .inr ⟨_, sqT_mono hide_le h1, rfl⟩, q _ G (Same.refl _) (by rw [h2.length]; exact .int _)⟩
      | scr h1 =>
        cases e
        exact ⟨_, _, rfl, .inl ⟨_, hide_le.seq h1, rfl⟩, q _ G (Same.refl _) (by rw [List.length_map]; exact .int _)⟩
      | str s =>
        obtain ⟨hl, rfl⟩ := ite_some e
        exact ⟨_, _, rfl, ⟨size_ok hl, rfl⟩, q _ G (Same.refl _) (.int _)⟩
      | _ => cases e
/-- len of a list of one's own -/
theorem ev_lenOwn (hi : fr.isOwn i = true := by rfl) : EV Γ fr (tCB (fun xs H Q => ∃ x n, xs = [x] ∧ LenV Γ.K x H n ∧ Q (.int n) H) (tCons (tVar i) tNil)) (aOwn (fun l => some (.int l.length)) i) := fun σ ρ G S c Q p => by
  have hi : i ∈ fr.ow := isown hi
  unfold aOwn at p
  cases ho : ownL ρ i with
  | none => rw [ho] at p; exact p.elim
  | some l =>
    rw [ho] at p
    obtain ⟨q, xs, h4, h5, h6, h7, h8⟩ := c.ownAt hi ho
    exact ⟨.ref q, h4, .ref q, xs.length, rfl, .inl ⟨_, SqL.of h6, rfl⟩, PostG.give (d := D.int l.length) p (Same.refl _) c (by rw [h7.length]; exact .int _)⟩
def dAbs : List D → Option D
  | [.int i] => some (.int (if i < 0 then -i else i))
  | _ => none
theorem cad_abs : CaD Γ (fun xs H Q => ∃ i, xs = [V.int i] ∧ Q (.int (if i < 0 then -i else i)) H) dAbs := fun G S xs ds dz dom hx e Q q => by
  cases hx with
  | nil => cases e
  | cons r t =>
    cases t with
    | cons _ _ => cases r <;> cases e
    | nil =>
      cases r with
      | int i => cases e; exact ⟨_, rfl, q _ G (Same.refl _) (.int _)⟩
      | _ => cases e
def dInt : List D → Option D
  | [.int i] => some (.int i)
  | [.bl k] => some (.int (if k then 1 else 0))
  | _ => none
theorem cad_int : CaD Γ (fun xs H Q => (∃ i, xs = [V.int i] ∧ Q (.int i) H) ∨ ∃ k, xs = [V.bl k] ∧ Q (.int (if k then 1 else 0)) H) dInt := fun G S xs ds dz dom hx e Q q => by
  cases hx with
  | nil => cases e
  | cons r t =>
    cases t with
    | cons _ _ => cases r <;> cases e
    | nil =>
      cases r with
      | int i => cases e; exact .inl ⟨_, rfl, q _ G (Same.refl _) (.int _)⟩
      | bl i => cases e; exact .inr ⟨_, rfl, q _ G (Same.refl _) (.int _)⟩
      | _ => cases e
def dList : List D → Option D
  | [.lst l] => some (.lst l)
  | [.tup l] => some (.lst l)
  | [.scr l] => some (.lst (l.map .int))
  | _ => none
def rListX (K : PySem.W.Frag) : List V → Hp → VK → Prop := fun xs H Q => ∃ p ys, xs = [.ref p] ∧ (SqL K H p ys ∨ SqT K H p ys) ∧ ∀ l, H l = none → Q (.ref l) (upd H l (.lst ys))
theorem list_of {H : Hp} {xs : List V} {ds : List D} {dz : D} (hx : IsDs Γ H xs ds) (e : dList ds = some dz) {G : Hp} (le : Same H G) : ∃ p ys l, xs = [.ref p] ∧ (SqL Γ.K G p ys ∨ SqT Γ.K G p ys) ∧ dz = .lst l ∧ IsDs Γ H ys l := by
  cases hx with
  | nil => cases e
  | cons r t =>
    cases t with
    | cons _ _ => cases r <;> cases e
    | nil =>
      cases r with
      | lst h1 h2 => cases e; exact ⟨_, _, _, rfl, .inl (SqL.of (le _ _ h1)), rfl, h2⟩
      | tup h1 h2 => cases e; exact ⟨_, _, _, rfl, .inr (sqT_mono le h1), rfl, h2⟩
      | scr h1 => cases e; exact ⟨_, _, _, rfl, .inl (le.seq h1), rfl, isDs_ints _⟩
      | _ => cases e
theorem evf_list (ha : EA Γ fr ta ma) : EVF Γ fr (tCB (rListX Γ.K) ta) (aF dList ma) := fun σ ρ G S c Q p => by
  refine ha.stepF c p fun ds ρ1 xs G1 S1 _ c1 hx p1 => ?_
  have p2 : PostF Γ fr σ G1 S1 Q (Rs.ofOpt (dList ds) ρ1) := p1
  cases e : dList ds with
  | none => rw [e] at p2; exact p2.elim
  | some dz =>
    rw [e] at p2
    obtain ⟨p, ys, l, rfl, hs, rfl, hD⟩ := list_of hx e hide_le
    refine ⟨p, ys, rfl, hs, fun q hq => ?_⟩
    obtain ⟨n1, n2, n3⟩ := c1.newB hq
    exact p2 q ys l _ (fun a => S1 a ∨ a = q) rfl (hideMore_le hq) (c1.hideMore hq) (.inr rfl) upd_same (hD.le (hideMore_le hq)) n1 n2 n3 (c1.newOwn hq)
def dTuple : List D → Option D
  | [.lst l] => some (.tup l)
  | [.tup l] => some (.tup l)
  | [.scr l] => some (.tup (l.map .int))
  | _ => none
theorem cad_tuple : CaD Γ (fun xs H Q => ∃ p ys, xs = [V.ref p] ∧ ((SqL Γ.K H p ys ∧ ∀ l, H l = none → Q (.ref l) (upd H l (.tup ys))) ∨ (SqT Γ.K H p ys ∧ Q (.ref p) H))) dTuple := fun G S xs ds dz dom hx e Q q => by
  have fresh : ∀ {p : Addr}, G p = none → ¬ S p := fun {p} h z => by
    obtain ⟨o, e⟩ := dom p z
    rw [h] at e; cases e
  cases hx with
  | nil => cases e
  | cons r t =>
    cases t with
    | cons _ _ => cases r <;> cases e
    | nil =>
      cases r with
      | lst h1 h2 =>
        cases e
        exact ⟨_, _, rfl, .inl ⟨SqL.of (hide_le _ _ h1), fun l hl => q _ _ (same_upd hl) (.tup (SqT.of (hide_of (fresh hl) upd_same)) (h2.le (hide_ext (same_upd hl))))⟩⟩
      | scr h1 =>
        cases e
        exact ⟨_, _, rfl, .inl ⟨hide_le.seq h1, fun l hl => q _ _ (same_upd hl) (.tup (SqT.of (hide_of (fresh hl) upd_same)) (isDs_ints _))⟩⟩
      | tup h1 h2 =>
        cases e
        exact ⟨_, _, rfl, .inr ⟨sqT_mono hide_le h1, q _ G (Same.refl _) (.tup h1 h2)⟩⟩
      | _ => cases e
/-- tuple(x), x a list of one's own -/
theorem ev_tupleOwn (hi : fr.isOwn i = true := by rfl) : EV Γ fr (tCB (fun xs H Q => ∃ p ys, xs = [V.ref p] ∧ ((SqL Γ.K H p ys ∧ ∀ l, H l = none → Q (.ref l) (upd H l (.tup ys))) ∨ (SqT Γ.K H p ys ∧ Q (.ref p) H))) (tCons (tVar i) tNil)) (aOwn (fun l => some (.tup l)) i) := fun σ ρ G S c Q p => by
  have hi : i ∈ fr.ow := isown hi
  unfold aOwn at p
  cases ho : ownL ρ i with
  | none => rw [ho] at p; exact p.elim
  | some l =>
    rw [ho] at p
    obtain ⟨q, xs, h4, h5, h6, h7, h8⟩ := c.ownAt hi ho
    exact ⟨.ref q, h4, q, xs, rfl, .inl ⟨SqL.of h6, fun l' hl => PostG.give (d := D.tup l) p (hide_ext (same_upd hl)) (c.ext (same_upd hl)) (.tup (SqT.of (c.hideNew hl)) (h7.le (hide_ext (same_upd hl))))⟩⟩
def dGcd : List D → Option D
  | [.int a, .int b] => some (.int (Nat.gcd a.natAbs b.natAbs : Nat))
  | _ => none
theorem cad_gcd : CaD Γ rGcd dGcd := fun G S xs ds dz dom hx e Q q => by
  cases hx with
  | nil => cases e
  | cons r t =>
    cases t with
    | nil => cases r <;> cases e
    | cons r2 t2 =>
      cases t2 with
      | cons _ _ => cases r <;> first | cases e | (cases r2 <;> cases e)
      | nil =>
        cases r with
        | int a =>
          cases r2 with
          | int b => cases e; exact ⟨a, b, rfl, q _ G (Same.refl _) (.int _)⟩
          | _ => cases e
        | _ => cases e
def dLcm : List D → Option D
  | [.int a, .int b] => if bits a < 5000 ∧ bits b < 5000 then some (.int (Nat.lcm a.natAbs b.natAbs : Nat)) else none
  | _ => none
def rLcm : List V → Hp → VK → Prop := fun vs H Q => ∃ a b : Int, vs = [.int a, .int b] ∧ (bits a < 5000 ∧ bits b < 5000) ∧ Q (.int ((Nat.lcm a.natAbs b.natAbs : Nat) : Int)) H
theorem cad_lcm : CaD Γ rLcm dLcm := fun G S xs ds dz dom hx e Q q => by
  cases hx with
  | nil => cases e
  | cons r t =>
    cases t with
    | nil => cases r <;> cases e
    | cons r2 t2 =>
      cases t2 with
      | cons _ _ => cases r <;> first | cases e | (cases r2 <;> cases e)
      | nil =>
        cases r with
        | int a =>
          cases r2 with
          | int b =>
            obtain ⟨h1, rfl⟩ := ite_some e
            exact ⟨a, b, rfl, h1, q _ G (Same.refl _) (.int _)⟩
          | _ => cases e
        | _ => cases e

/-! ### isinstance -/
def tyNm : D → Option String
  | .non => some "NoneType"
  | .bl _ => some "bool"
  | .int _ => some "int"
  | .str _ => some "str"
  | .tup _ => some "tuple"
  | .lst _ => some "list"
  | .scr _ => some "list"
  | .ins _ _ _ => none
def isiN (a T : String) : Bool := a == T || (a == "bool" && T == "int")
def kitTs : List String := ["int", "bool", "str", "list", "tuple"]
theorem kit_all : ∀ T ∈ kitTs, ∀ a ∈ ["NoneType", "bool", "int", "str", "tuple", "list"], kitB a T = some (isiN a T) := by decide +kernel
theorem tyX_of {H : Hp} {v : V} {d : D} {a : String} (h : IsD Γ H v d) (e : tyNm d = some a) {G : Hp} (le : Same H G) : TyX Γ.K G v (.type a) ∧ a ∈ ["NoneType", "bool", "int", "str", "tuple", "list"] := by
  cases h with
  | non => cases e; exact ⟨.base .non, by decide⟩
  | bl b => cases e; exact ⟨.base (.bl b), by decide⟩
  | int b => cases e; exact ⟨.base (.int b), by decide⟩
  | str b => cases e; exact ⟨.base (.str b), by decide⟩
  | tup h1 h2 =>
    cases e
    refine ⟨?_, by decide⟩
    rcases h1 with (h1 | ⟨o, h1⟩) | ⟨o, its, n, h1, h3, _⟩
    · exact .base (.tup (le _ _ h1))
    · exact .fTuple (le _ _ h1)
    · exact .kTuple h1 h3
  | lst h1 h2 => cases e; exact ⟨.base (.lst (le _ _ h1)), by decide⟩
  | scr h1 =>
    cases e
    refine ⟨?_, by decide⟩
    rcases h1 with (h1 | ⟨o, h1⟩) | ⟨o, its, n, h1, h3, _⟩
    · exact .base (.lst (le _ _ h1))
    · exact .base (.frz (le _ _ h1))
    · exact .kList h1 h3
  | ins _ _ _ => cases e
def dIsi (T : String) : D → Option D := fun d => if T ∈ kitTs then (tyNm d).map fun a => .bl (isiN a T) else none
theorem ev_isi {T : String} (h : EV Γ fr te m) : EV Γ fr (tCB (rIsi Γ.K) (tCons te (tCons (tC (.ty T)) tNil))) (eUn (dIsi T) m) := fun σ ρ G S c Q p => by
  refine h.step c p fun d ρ1 x G1 S1 _ c1 hx p1 => ?_
  obtain ⟨dz, hf, p3⟩ := p1.giveO
  unfold dIsi at hf
  by_cases hT : T ∈ kitTs
  · rw [if_pos hT] at hf
    cases ha : tyNm d with
    | none => rw [ha] at hf; cases hf
    | some a =>
      rw [ha] at hf
      cases hf
      obtain ⟨h1, h2⟩ := tyX_of hx ha hide_le
      exact ⟨x, .ty T, _, _, _, rfl, .ty T, h1, kit_ty (kit_all T hT a h2), p3.give (Same.refl _) c1 (.bl _)⟩
  · rw [if_neg hT] at hf
    cases hf
def dIsi2 (A B : String) : D → Option D := fun d => if A ∈ kitTs ∧ B ∈ kitTs then (tyNm d).map fun a => .bl (isiN a A || isiN a B) else none
theorem ev_isi2 {A B : String} (h : EV Γ fr te m) : EV Γ fr (tCB (rIsiT Γ.K) (tCons te (tCons (tTup (tCons (tC (.ty A)) (tCons (tC (.ty B)) tNil))) tNil))) (eUn (dIsi2 A B) m) := fun σ ρ G S c Q p => by
  refine h.step c p fun d ρ1 x G1 S1 _ c1 hx p1 => ?_
  obtain ⟨dz, hf, p3⟩ := p1.giveO
  unfold dIsi2 at hf
  by_cases hT : A ∈ kitTs ∧ B ∈ kitTs
  · rw [if_pos hT] at hf
    cases ha : tyNm d with
    | none => rw [ha] at hf; cases hf
    | some a =>
      rw [ha] at hf
      cases hf
      obtain ⟨h1, h2⟩ := tyX_of hx ha hide_le
      refine ⟨by show 2 ≤ sizeLine; decide, fun q hq => ?_⟩
      obtain ⟨h1, h2⟩ := tyX_of hx ha (hide_le.trans (same_upd (o := .tup [.ty A, .ty B]) hq))
      refine ⟨x, q, _, _, [.type A, .type B], isiN a A || isiN a B, rfl, upd_same, .cons (.ty A) (.cons (.ty B) .nil), h1, ?_, p3.give (hide_ext (same_upd hq)) (c1.ext (same_upd hq)) (.bl _)⟩
      refine kitAny_cons (kit_ty (kit_all A hT.1 a h2)) (fun e => ?_) (fun e => by rw [e]; rfl)
      rw [e, Bool.false_or]
      exact kitAny_cons (kit_ty (kit_all B hT.2 a h2)) (fun e => by rw [e]; exact kitAny_nil) (fun e => e)
  · rw [if_neg hT] at hf
    cases hf
end
section
variable {X : Cx}
open PyProof.Rows in
theorem cr_lcm : CallR X (.builtin "math.lcm") rLcm := by
  intro pins s σ H vs us Q I r h
  obtain ⟨a, b, rfl, ⟨ha, hb⟩, q⟩ := h
  obtain ⟨u1, u2, rfl, ⟨t, rfl⟩, ⟨t', rfl⟩⟩ := vals2 r
  have l1 : ∀ x : Nat, Nat.lcm 1 x = x := fun x => by simp [Nat.lcm]
  have hm : ∀ x y : Nat, (max x y).log2 ≤ max x.log2 y.log2 := fun x y => by
    by_cases h : x ≤ y
    · rw [Nat.max_eq_right h]; exact Nat.le_max_right _ _
    · rw [Nat.max_eq_left (by omega)]; exact Nat.le_max_left _ _
  have ha' : a.natAbs.log2 < 5000 := ha
  have hb' : b.natAbs.log2 < 5000 := hb
  have c0 : ¬ (max 1 a.natAbs).log2 / 30 + 1 > 450 := by
    have h1 := hm 1 a.natAbs
    have h2 : (1 : Nat).log2 = 0 := by decide
    rw [h2] at h1
    have h3 : max 0 a.natAbs.log2 = a.natAbs.log2 := Nat.zero_max _
    omega
  have c1 : ¬ (max a.natAbs b.natAbs).log2 / 30 + 1 > 450 := by
    have h1 := hm a.natAbs b.natAbs
    have h3 : max a.natAbs.log2 b.natAbs.log2 < 5000 := Nat.max_lt.mpr ⟨ha', hb'⟩
    omega
  have lt : ∀ x : Nat, x.log2 < 5000 → x < 2 ^ 5000 := fun x hx => by
    by_cases h0 : x = 0
    · rw [h0]; exact Nat.two_pow_pos _
    · exact (Nat.log2_lt h0).mp hx
  have sz : ((((Nat.lcm 1 a.natAbs).lcm b.natAbs : Nat) : Int)).natAbs.log2 < bitsLine := by
    rw [l1, Int.natAbs_natCast]
    have e : bitsLine = 134217728 := by decide
    rw [e]
    by_cases h0 : a.natAbs.lcm b.natAbs = 0
    · rw [h0]; decide
    · rw [Nat.log2_lt h0]
      have h1 : a.natAbs.lcm b.natAbs ≤ a.natAbs * b.natAbs := by
        unfold Nat.lcm
        exact Nat.div_le_self _ _
      have h2 : a.natAbs * b.natAbs < 2 ^ 5000 * 2 ^ 5000 := Nat.mul_lt_mul'' (lt _ ha') (lt _ hb')
      rw [← Nat.pow_add] at h2
      exact Nat.lt_of_le_of_lt h1 (Nat.lt_of_lt_of_le h2 (Nat.pow_le_pow_right (by decide) (by decide)))
  have q' : Q (.int (((Nat.lcm 1 a.natAbs).lcm b.natAbs : Nat) : Int)) H := by rw [l1]; exact q
  refine call_function_meets PySem.W.MGF.kind_lcm PySem.W.MGF.plain_lcm PySem.W.MGF.entry_lcm (PySem.W.MGF.args_lcm _ _) (PySem.W.mg_run_lcm a t b t' c0 c1 sz).meets ⟨.int _, H, I.tok _, ⟨_, rfl⟩, q'⟩
end
end Py

set_option Elab.async false
set_option linter.all false
set_option maxRecDepth 100000
set_option maxHeartbeats 2000000
namespace Py
open PySem L2
open PyProof.Rows (envOfC)

/-! ## 13. How a def stands, and how it is called -/
structure W0 where
  P : Program
  w : World
  Γ : Gm
  mg : Str → Option Value
  base : Heap
/-- a def of the text behind the top, with its defaults -/
def Stands (Γ : Gm) (mg : Str → Option Value) (x qual : Str) (st : Stmt) (dvs : List V) (f : Addr) : Prop := ∃ fd, FunD Γ.K x qual (defArgs st) (defBody st) (defScope st) dvs [] f fd ∧ mg x = some (.ref f)
/-- a call of x, the defaults dvs filling up, keeps sp -/
def OkC (P : Program) (w : World) (K : PySem.W.Frag) (mg : Str → Option Value) (base : Heap) (x : Str) (dvs : List V) (k : Nat) (sp : Sp) : Prop :=
  ∃ f fd ps ds, FnOk P w K mg base (L2.CX P w) k f fd ps sp ∧ mg x = some (.ref f) ∧ PySem.W.keepIn K (.ref f) = true ∧ Binds K fd ps ds ∧ Vals dvs ds
theorem okc_all {P : Program} {w : World} {Γ : Gm} {mg : Str → Option Value} {base : Heap} {x qual : Str} {st : Stmt} {f : Addr} {k : Nat} {ps : List Str} {sp : Sp} (h : Stands Γ mg x qual st [] f)
    (ok : ∀ fd, FunD Γ.K x qual (defArgs st) (defBody st) (defScope st) [] [] f fd → FnOk P w Γ.K mg base (L2.CX P w) k f fd ps sp)
    (hb : ∀ (kV doc pm : Value) (an : Option Addr) (cdv ct : Value) (us : List Value), us.length = ps.length → bindArgs (PySem.W.fnOf x qual (defArgs st) (defBody st) (defScope st) .none kV doc pm an cdv ct) ⟨us, []⟩ = pure (ps.zip us)) :
    OkC P w Γ.K mg base x [] k sp := by
  obtain ⟨fd, F, hm⟩ := h
  exact ⟨f, fd, ps, [], ok fd F, hm, F.kp, F.bindsN hb, .nil⟩
theorem okc_dfl {P : Program} {w : World} {Γ : Gm} {mg : Str → Option Value} {base : Heap} {x qual : Str} {st : Stmt} {f : Addr} {k : Nat} {ps : List Str} {sp : Sp} {dvs : List V} (n j : Nat) (h : Stands Γ mg x qual st dvs f)
    (ok : ∀ fd, FunD Γ.K x qual (defArgs st) (defBody st) (defScope st) dvs [] f fd → FnOk P w Γ.K mg base (L2.CX P w) k f fd ps sp) (hd : dvs ≠ []) (hn : n + (dvs.length - j) = ps.length)
    (hb : ∀ (T : Addr) (kV doc pm : Value) (an : Option Addr) (cdv ct : Value) (us its : List Value), us.length = n → its.length = dvs.length →
      ∃ k, bindArgs (PySem.W.fnOf x qual (defArgs st) (defBody st) (defScope st) (.ref T) kV doc pm an cdv ct) ⟨us, []⟩ = seqItems? (.ref T) >>= k ∧ k (some its.toArray) = pure (ps.zip (us ++ its.drop j))) :
    OkC P w Γ.K mg base x (dvs.drop j) k sp := by
  obtain ⟨fd, F, hm⟩ := h
  obtain ⟨ds, r, b⟩ := F.binds1 n j hd hn hb
  exact ⟨f, fd, ps, ds, ok fd F, hm, F.kp, b, r⟩
section
variable {X : Cx} {k : Nat} {sp : Sp} {dvs : List V} {x : Str} {p pos : Pos} {e : Expr} {es : List Expr} {t : TA} {W : WX}
theorem pe_callX (F : OkC X.prog X.w X.K X.mg X.base x dvs k sp) (hr : Room k X.A) (tk : Takes X W) (ha : PA X (e :: es) t) (hg : Gl X x := by rfl) (hdb : (x == ("__debug__" : Str)) = false := by decide)
    (he : starEach (e :: es) X.env = (false, eval e X.env) :: starEach es X.env := by rfl) (hpl : (backTo pos (starEach es X.env)).any (·.1) = false := by rfl) :
    PE X (.Call (.Name x p) (e :: es) [] pos) (tCallSD sp dvs (WE W) t) := by
  obtain ⟨f, fd, ps, ds, F, hm, hk, hb, hd⟩ := F
  exact pe_callSD F hr hg hm hk hb hd (fun σ => passAt tk σ) ha hdb he hpl
theorem pe_callX0 (F : OkC X.prog X.w X.K X.mg X.base x dvs k sp) (hr : Room k X.A) (tk : Takes X W) (hg : Gl X x := by rfl) (hdb : (x == ("__debug__" : Str)) = false := by decide) : PE X (.Call (.Name x p) [] [] pos) (tCallSD sp dvs (WE W) tNil) := by
  obtain ⟨f, fd, ps, ds, F, hm, hk, hb, hd⟩ := F
  exact pe_callSD0 F hr hg hm hk hb hd (fun σ => passAt tk σ) hdb
end
def sSeqN (a b : Env → Out) : Env → Out := fun ρ => match a ρ with
  | .nx ρ1 => b ρ1
  | _ => .stuck
def runN (n : Nat) (m : Env → Out) (ds : List D) : Rf D := match m (entry n ds) with
  | .ret d _ => .ok d
  | _ => .stuck
section
variable {Γ : Gm} {fr : Frm} {te : TE} {m : Env → Rs D} {t u : TS} {a b : Env → Out}
theorem sn_ret (h : EVF Γ fr te m) : SN Γ fr (tRet te) (sRet m) := fun σ ρ G S c E p => by
  refine h σ ρ G S c _ ?_
  unfold sRet at p
  generalize m ρ = r at p ⊢
  cases r with
  | ok d ρ' => exact fun q xs l G' S' ed e1 c1 hS hG hD hB h0 _ _ => p q xs l σ G' S' ed e1 c1 hS hG hD hB h0
  | exc _ _ => exact p.elim
  | stuck => exact p
theorem sn_seq (h1 : SV Γ fr t a) (h2 : SN Γ fr u b) : SN Γ fr (tSeq t u) (sSeqN a b) := fun σ ρ G S c E p => by
  refine h1 σ ρ G S c { E with nx := u E } ?_
  unfold sSeqN at p
  generalize a ρ = r at p ⊢
  cases r with
  | nx ρ1 =>
    intro σ' G' S' e c'
    refine h2 σ' ρ1 G' S' c' E ?_
    have p : (match b ρ1 with
      | .nx ρ' => ∀ σ' G' S', Same (hide S G) (hide S' G') → Co Γ fr σ' ρ' G' S' → E.nx σ' G'
      | .ret d ρ' => ∀ p xs l σ' G' S', d = .lst l → Same (hide S G) (hide S' G') → Co Γ fr σ' ρ' G' S' → S' p → G' p = some (.lst xs) → IsDs Γ (hide S' G') xs l → fr.B p = none → ¬ fr.S0 p → E.rt (.ref p) G'
      | _ => False) := p
    generalize b ρ1 = r at p ⊢
    cases r with
    | nx _ => exact fun σ2 G2 S2 e2 c2 => p σ2 G2 S2 (e.trans e2) c2
    | ret _ _ => exact fun q xs l σ2 G2 S2 ed e2 c2 => p q xs l σ2 G2 S2 ed (e.trans e2) c2
    | brk _ => exact p
    | ct _ => exact p
    | exc _ _ => exact p
    | stuck => exact p
  | ret _ _ => exact p.elim
  | brk _ => exact p.elim
  | ct _ => exact p.elim
  | exc _ _ => exact p.elim
  | stuck => exact p
theorem okN {P : Program} {w : World} {mg : Str → Option Value} {base : Heap} {dvs : List V} {x qual : Str} {st : Stmt} {f : Addr} {fd : FuncData} {N ps : List Str} {k : Nat} (ow : List Nat) (m : Env → Out) (F : FunD Γ.K x qual (defArgs st) (defBody st) (defScope st) dvs [] f fd) (S : FnScope N ps (defScope st)) (how : ∀ i ∈ ow, ps.length ≤ i)
    (hbody : ∀ (cdv : Value) (A : Around) (outer : List PySem.Env) (s : Shared) (H : Hp) (E : XK) (S0 : Addr → Prop), Room k (A.deeper (envOfC qual (defScope st) s.heap.objs.size f cdv)) →
      ∃ t, PSs (cxOf (L2.CX P w) P w Γ.K mg base N qual (defScope st) f cdv A outer s H E) (defBody st) t ∧ SN Γ { ow := ow, hd := false, hp := 0, B := H, S0 := S0, W := fun cls d _ H => E cls d H } t m) :
    FnOk P w Γ.K mg base (L2.CX P w) (k + 1) f fd ps (spN Γ ps.length (runN N.length m)) := by
  refine F.ok (CX := L2.CX P w) S (fun vs H Q E h => h.1) (fun cdv A outer s H vs Q E hr h => ?_)
  obtain ⟨hn, S0, ds, dom, hv, hq⟩ := h
  obtain ⟨t, ht, hs⟩ := hbody cdv A outer s H E S0 hr
  refine ⟨t, ht, hs (L2.start N vs) (entry N.length ds) H S0 ?_ _ ?_⟩
  · exact {
      len := by unfold L2.start entry; simp only [List.length_append, List.length_map, List.length_replicate]; rw [hv.length]
      dom := dom
      sub := fun _ h => h
      keep := fun _ _ _ h => h
      pin := fun e => by cases e
      hs0 := fun e => by cases e
      xsl := fun q h => nomatch h
      sh := fun i d _ h => by
        obtain ⟨v, h1, h2⟩ := hv.get (entry_some h)
        exact ⟨v, start_get h1, h2⟩
      own := fun i d h1 h2 => by
        have h3 := (List.getElem?_eq_some_iff.mp (entry_some h2)).1
        have h4 := how i h1
        rw [← hv.length, hn] at h3
        omega
      inj := fun i j d e p h1 _ _ h2 => by
        have h3 := (List.getElem?_eq_some_iff.mp (entry_some h2)).1
        have h4 := how i h1
        rw [← hv.length, hn] at h3
        omega }
  · unfold runN at hq
    generalize m (entry N.length ds) = r at hq ⊢
    cases r with
    | ret d ρ =>
      intro p xs l σ' G' S' ed e c hS hG hD hB h0
      have old : Same H G' := fun a o h => c.keep a o (fun z => by cases z) h
      refine hq p G' xs l ed hB old hG (hD.le (hide_less fun a h => ?_))
      rcases h with h | rfl
      · exact c.sub a h
      · exact hS
    | nx _ => exact hq.elim
    | exc _ _ => exact hq.elim
    | brk _ => exact hq.elim
    | ct _ => exact hq.elim
    | stuck => exact hq
end
/-- an error class of one's own whose __init__ keeps sp -/
def ExcI (P : Program) (w : World) (K : PySem.W.Frag) (mg : Str → Option Value) (base : Heap) (x : Str) (C : Addr) (sp : Sp) : Prop :=
  OexC K C ∧ mg x = some (.ref C) ∧ ∃ fI fd ps, PySem.W.findIn K (.ref C) "__init__" = some (some (.ref fI)) ∧ PySem.W.typeIn K (.ref fI) = some (.type "function") ∧ FnOk P w K mg base (L2.CX P w) 1 fI fd ps sp ∧ Binds K fd ps []
theorem ps_raiseX {X : Cx} {W : WX} {x : Str} {C : Addr} {sp : Sp} {p pos pos2 : Pos} {e : Expr} {es : List Expr} {ta : TA} (hc : X.calm = true) (F : ExcI X.prog X.w X.K X.mg X.base x C sp) (hr : Room 2 X.A) (tk : Takes X W) (ha : PA X (e :: es) ta) (hg : Gl X x := by rfl)
    (hdb : (x == ("__debug__" : Str)) = false := by decide) (he : starEach (e :: es) X.env = (false, eval e X.env) :: starEach es X.env := by rfl) (hpl : (backTo pos (starEach es X.env)).any (·.1) = false := by rfl) :
    PS X (.Raise (some (.Call (.Name x p) (e :: es) [] pos)) none pos2) (fun _ σ H => tMkO C sp [] ta σ H fun cls d H' => W cls d σ H') := by
  obtain ⟨T, hm, fI, fd, ps, h1, h2, h3, h4⟩ := F
  exact ps_raise hc tk (pmk_oex T h1 h2 h3 hr h4 .nil passL hg hm ha hdb he hpl)
theorem hu64 {k : Nat} {A : Around} (hr : Room k A) : A.units + 64 < cLine := hr.units
theorem nil_ds {Γ : Gm} : ∀ H, IsDs Γ H [] [] := fun _ => .nil

theorem bt_len : bootBuiltins "len" = some (.builtin "len") := by decide +kernel
theorem bt_abs : bootBuiltins "abs" = some (.builtin "abs") := by decide +kernel
theorem bt_isinstance : bootBuiltins "isinstance" = some (.builtin "isinstance") := by decide +kernel
theorem bt_int : bootBuiltins "int" = some (.type "int") := by decide +kernel
theorem bt_bool : bootBuiltins "bool" = some (.type "bool") := by decide +kernel
theorem bt_str : bootBuiltins "str" = some (.type "str") := by decide +kernel
theorem bt_list : bootBuiltins "list" = some (.type "list") := by decide +kernel
theorem bt_tuple : bootBuiltins "tuple" = some (.type "tuple") := by decide +kernel

/-- is True, is False: both sides truth values -/
def dIsB : D → D → Option D
  | .bl a, .bl b => some (.bl (decide (a = b)))
  | _, _ => none
def dNotB : D → D → Option D
  | .bl a, .bl b => some (.bl (!decide (a = b)))
  | _, _ => none
theorem opd_isB {Γ : Gm} : OpD Γ rIsB dIsB := fun G S x y dx dy dz dom hx hy e Q q => by
  cases hx with
  | bl a =>
    cases hy with
    | bl b => cases e; exact ⟨a, b, rfl, rfl, q _ G (Same.refl _) (.bl _)⟩
    | _ => cases e
  | _ => cases e
theorem opd_notB {Γ : Gm} : OpD Γ rNotB dNotB := fun G S x y dx dy dz dom hx hy e Q q => by
  cases hx with
  | bl a =>
    cases hy with
    | bl b => cases e; exact ⟨a, b, rfl, rfl, q _ G (Same.refl _) (.bl _)⟩
    | _ => cases e
  | _ => cases e
/-- a < b < c -/
def chK (f' : D → D → Option D) (mc : Env → Rs D) (b : D) : D → Env → Rs D := fun z ρ3 => match z with
  | .bl true => (mc ρ3).bind fun c ρ4 => Rs.ofOpt (f' b c) ρ4
  | .bl false => .ok (.bl false) ρ3
  | _ => .stuck
def eChain (f f' : D → D → Option D) (ma mb mc : Env → Rs D) : Env → Rs D := fun ρ => (ma ρ).bind fun a ρ1 => (mb ρ1).bind fun b ρ2 => (Rs.ofOpt (f a b) ρ2).bind (chK f' mc b)
section
variable {Γ : Gm} {fr : Frm} {ta tb tc : TE} {ma mb mc : Env → Rs D}
theorem ev_chain {r r' : R2} {f f' : D → D → Option D} (h1 : OpD Γ r f) (h2 : OpD Γ r' f') (ha : EV Γ fr ta ma) (hb : EV Γ fr tb mb) (hc : EV Γ fr tc mc) : EV Γ fr (tChain r r' ta tb tc) (eChain f f' ma mb mc) := fun σ ρ G S c Q p => by
  refine ha.step c p fun da ρ1 x G1 S1 _ c1 hx p1 => ?_
  refine hb.step c1 p1 fun db ρ2 y G2 S2 e2 c2 hy p2 => ?_
  cases hf : f da db with
  | none => rw [hf] at p2; exact p2.elim
  | some z =>
    rw [hf] at p2
    refine h1 G2 S2 x y da db z c2.dom (hx.le e2) hy hf _ fun v G3 e3 hv => ?_
    have p3 : PostG (fun H v d => IsD Γ H v d) Γ fr σ G3 S2 Q (chK f' mc db z ρ2) := PostG.mono (hide_ext e3) p2
    cases hv with
    | bl b =>
      refine ⟨b, rfl, ?_⟩
      cases b with
      | false => exact PostG.give (d := D.bl false) p3 (Same.refl _) (c2.ext e3) (.bl false)
      | true =>
        refine hc.step (c2.ext e3) p3 fun dc ρ4 zv G4 S4 e4 c4 hz p4 => ?_
        obtain ⟨dz, hf', p5⟩ := p4.giveO
        exact h2 G4 S4 y zv db dc dz c4.dom ((hy.le (hide_ext e3)).le e4) hz hf' Q fun v G5 e5 hv => p5.give (hide_ext e5) (c4.ext e5) hv
    | _ => exact p3.elim
end
end Py

set_option Elab.async false
set_option linter.all false
set_option maxRecDepth 100000
set_option maxHeartbeats 2000000
namespace Py
open PySem L2
open PyProof.Rows (envOfC)
/-! ## 14. In a suite: isinstance of the error, calls that are handed the error -/
section
variable {prog : Program} {w : World} {A : Around} {E : Value → Shared → Prop} {s : Shared} {Q : Value → Shared → Prop} {K : PySem.W.Frag}
theorem isi_yes {x t c : Value} {I : Heap → Prop} (ty : ∀ (M : Model) (h : Heap), I h → PySem.W.Looks M h (typeOf x) t) (e : PySem.W.kitOne K t c = some true) (X : K.In s.heap) (p : I s.heap) (hx : x ≠ .builtin "__main__.__loader__#opaque")
    (h : ∀ tk, Q (.bool true) { s with toks := tk }) : wpAny (model prog w) A (call (.builtin "isinstance") [x, c]) Q E s := by
  refine call_isinstance (S := fun _ R z => (K.In z.heap ∧ I z.heap) ∧ ∀ tk, R (.ok (.ret (.bool true))) { z with toks := tk }) (fun prog w A R z hs => isinstance_outer ?_ hx) ⟨⟨X, p⟩, h⟩
  obtain ⟨h0, g, d, tz, os⟩ := z
  obtain ⟨⟨X, p⟩, hq⟩ := hs
  have L := ty (model prog w) h0 p
  unfold Builtin.«isinstance.nested»
  refine wpAny_bind (L.at ?_)
  unfold PySem.W.kitOne at e
  by_cases same : (t == c) = true
  · rw [if_pos same]
    first
      | exact wpAny_bind (wpAny_rule (hq tz))
      | exact wpAny_bind (wpAny_rule (wpAny_pure (hq tz)))
      | exact wpAny_pure (hq tz)
      | exact wpAny_pure (wpAny_pure (hq tz))
      | exact hq tz
  · rw [if_neg same] at e
    rw [if_neg same]
    obtain ⟨k1, k2, k3⟩ := PySem.W.kit_cls (M := model prog w) X e
    have LI : PySem.W.Looks (model prog w) h0 (isInstance x c) true := L.andThen k3
    refine wpAny_bind (k1.at ?_)
    rw [if_pos (by decide)]
    k_delta "plainIsInstance"
    refine wpAny_bind (wpAny_bind (k2.at ?_))
    simp only [Bool.not_true, Bool.false_eq_true, if_false]
    refine wpAny_bind (LI.at ?_)
    first
      | exact wpAny_pure (wpAny_pure (hq tz))
      | (simp only [if_true]; first | exact wpAny_pure (wpAny_pure (hq tz)) | exact wpAny_pure (hq tz) | exact wpAny_bind (wpAny_pure (wpAny_pure (hq tz))))
end
/-- isinstance(x, C), x the error at a -/
def rIsY (K : PySem.W.Frag) (cls : Value) (a : Addr) : List V → Hp → VK → Prop := fun xs H Q => ∃ (c : V) (cv : Value), xs = [.ref a, c] ∧ ClsV c cv ∧ PySem.W.kitOne K cls cv = some true ∧ Q (.bl true) H
theorem call_isY {X : Cx} {q : Addr × Obj} {cls : Value} {dx : Option Addr} (hz : Zc cls dx q.2) (hq : q ∈ X.pn) : CallR X (.builtin "isinstance") (rIsY X.K cls q.1) := by
  intro pins s σ H xs us Q I r h
  obtain ⟨c, cv, rfl, kc, e, post⟩ := h
  obtain ⟨u1, u2, rfl, r1, r2⟩ := vals2 r
  cases r1
  cases kc.eq r2
  have P1 := I.pin q (List.mem_append_left _ hq)
  exact isi_yes (I := fun h => h.get? q.1 = some q.2) (fun M h g => by rw [← hz.1]; exact (PySem.W.Looks.ld g).andThen .now) e I.kIn P1.1 (fun z => nomatch z) fun tk => ⟨.bl true, H, I.tok tk, rfl, post⟩
/-! ### a def that is handed the error -/
structure FnP (P : Program) (w : World) (K : PySem.W.Frag) (mg : Str → Option Value) (base : Heap) (k : Nat) (f : Addr) (fd : FuncData) (ps : List Str) (sp : Addr × Obj → Sp) : Prop where
  ln : ∀ q vs H Q E, sp q vs H Q E → vs.length = ps.length
  go : ∀ (A : Around) (outer : List PySem.Env) (s : Shared) (H : Hp) (args : Args) (us : List Value) (vs : List V) (Q : VK) (q : Addr × Obj), L2H.RoomH k A → L2H.PinOk outer H s q → Env0 P w K mg base A outer s H → BindsTo s fd args (ps.zip us) → Vals vs us → sp q vs H Q (fun _ _ _ => False) →
    codeAny (model P w) A (.call (.ref f) args) (CR (L2.CX P w) outer P w H s Q (fun _ _ _ => False)) s
theorem fn_ofP {P : Program} {w : World} {K : PySem.W.Frag} {mg : Str → Option Value} {base : Heap} {k : Nat} {x qual : Str} {st : Stmt} {f : Addr} {fd : FuncData} {N ps : List Str} {sp : Addr × Obj → Sp} (F : FunD K x qual (defArgs st) (defBody st) (defScope st) [] [] f fd) (S : FnScope N ps (defScope st))
    (ln : ∀ q vs H Q E, sp q vs H Q E → vs.length = ps.length)
    (body : ∀ (cdv : Value) (A : Around) (outer : List PySem.Env) (s : Shared) (H : Hp) (vs : List V) (Q : VK) (q : Addr × Obj), L2H.RoomH k (A.deeper (envOfC qual (defScope st) s.heap.objs.size f cdv)) → sp q vs H Q (fun _ _ _ => False) →
      ∃ t, PSs (L2H.cxH (L2.CX P w) P w K mg base N qual (defScope st) f cdv A outer s H (fun _ _ _ => False) q) (defBody st) t ∧ t { nx := fun _ H' => Q .non H', rt := Q } (L2.start N vs) H) :
    FnP P w K mg base (k + 1) f fd ps sp := by
  obtain ⟨kc, kd, dV, kV, doc, pm, an, cdv, ct, ks, efd, lk, hcd, _, _⟩ := F.ex
  subst efd
  refine ⟨ln, fun A outer s H args us vs Q q room pin e0 hb r post => ?_⟩
  have hl := ln _ _ _ _ _ post
  have KX : K.In s.heap := (show K.In base from e0.mod.kin).keeps fun b o e => (e0.bs b o e).1
  have lim : s.heap.NoLimit := (show base.NoLimit from e0.mod.nolimit).keeps fun b o e => (e0.bs b o e).1
  have knd : ∀ y ∈ ps.zip us, (defScope st).names.lookup y.1 = some .local ∨ ((defScope st).names.lookup y.1 = some .cell ∧ ((cellsFrom (s.heap.objs.size + 1) (defScope st).names []).lookup y.1).isSome = true) := fun ⟨n, v⟩ hy => by
    rcases S.par n (List.of_mem_zip hy).1 with z | z
    · exact .inl z
    · exact .inr ⟨z, PySem.W.cellsFrom_some _ _ _ (.inl z)⟩
  have dpt : A.depth < recursionLimit := by have := room.dp; omega
  have room2 : L2H.RoomH k (A.deeper (envOfC qual (defScope st) s.heap.objs.size f cdv)) := room.deeper _
  refine codeAny_call_function dpt (KX _ _ lk) rfl S.co S.gen rfl (PySem.W.codeRec_of KX hcd) (hb _ _ _ _ ?_)
  refine wpAny_newFunctionEnv_cells S.kind knd fun env he s1 x => ?_
  subst he
  refine ⟨lim.keeps x.toInCall.keep, codeAny_func ?_⟩
  obtain ⟨t, ht, goal⟩ := body cdv A outer s H vs Q q room2 post
  have I0 := L2H.inv_startH (CX := L2.CX P w) (E := fun _ _ _ => False) (cd := cdv) (f := f) (qual := qual) S pin e0 hl r x
  refine wpAny_mono (ht.run [] s1 (L2.start N vs) H _ I0 goal) (fun fl z hs => ?_) fun e z hs => hs
  cases fl with
  | ret u =>
    obtain ⟨v, σ2, H2, J, rv, fin⟩ := hs
    exact ⟨v, H2, J.os, J.bare, J.base, J.hok, rv, fin⟩
  | next =>
    obtain ⟨σ2, H2, J, fin⟩ := hs
    exact ⟨V.non, H2, J.os, J.bare, J.base, J.hok, rfl, fin⟩
  | brk =>
    obtain ⟨_, _, _, z⟩ := hs
    exact z.elim
  | cont =>
    obtain ⟨_, _, _, z⟩ := hs
    exact z.elim
def tCallP (sp : Sp) (t : TA) : TE := fun σ H Q => t σ H fun vs H1 => sp vs H1 Q (fun _ _ _ => False)
theorem pe_callP {X : Cx} {k : Nat} {f : Addr} {fd : FuncData} {ps : List Str} {sp : Addr × Obj → Sp} {x : Str} {p pos : Pos} {e : Expr} {es : List Expr} {t : TA} {q : Addr × Obj} (F : FnP X.prog X.w X.K X.mg X.base k f fd ps sp) (hr : L2H.RoomH k X.A) (hq : q ∈ X.pn) (hm : X.mg x = some (.ref f)) (hk : PySem.W.keepIn X.K (.ref f) = true) (hb : Binds X.K fd ps [])
    (ha : PA X (e :: es) t) (hg : Gl X x := by rfl) (hdb : (x == ("__debug__" : Str)) = false := by decide) (he : starEach (e :: es) X.env = (false, eval e X.env) :: starEach es X.env := by rfl) (hpl : (backTo pos (starEach es X.env)).any (·.1) = false := by rfl) :
    PE X (.Call (.Name x p) (e :: es) [] pos) (tCallP (sp q) t) := by
  refine ⟨fun pins s σ H Q I h => wpAny_Call_Name_kw (ld_glob I hg hm ?_ hdb)⟩
  refine PySem.W.callWith_K (h₀ := X.base) I.ok.mod.kin hk (thn (ha.run pos pins s σ H _ I h) fun us s1 ⟨vs, H1, I1, r, post⟩ => ⟨I1.kIn, ?_⟩) he hpl
  have el : us.length = ps.length := by rw [← r.length]; exact F.ln _ _ _ _ _ post
  have bs := hb s1 us I1.kIn (by rw [List.append_nil]; exact el)
  rw [List.append_nil] at bs
  have P1 := I1.pin q (List.mem_append_left _ hq)
  have pin : L2H.PinOk X.stack H1 s1 q := ⟨P1.1, P1.2.1, fun z => (List.mem_cons.mp (I1.stkSub q.1 z)).elim P1.2.2.1 P1.2.2.2.1, P1.2.2.2.2⟩
  refine wpAny_call (codeAny_mono (F.go X.A X.stack s1 H1 ⟨us, []⟩ us vs Q q hr pin I1.env0 bs r post) fun rr s2 done => ?_)
  cases rr with
  | error e =>
    obtain ⟨_, _, _, _, _, _, _, _, _, _, _, _, z⟩ := done
    exact z.elim
  | ok fl =>
    cases fl with
    | ret u => exact I1.after done
    | next => exact done.elim
    | brk => exact done.elim
    | cont => exact done.elim
/-- the error is of these classes -/
def spFam (K : PySem.W.Frag) (cvs : List Value) : Addr × Obj → Sp := fun q vs H Q _ => vs = [.ref q.1] ∧ ∃ cls dx, Zc cls dx q.2 ∧ (∀ cv ∈ cvs, PySem.W.kitOne K cls cv = some true) ∧ Q (.bl true) H
def OkF (P : Program) (w : World) (K : PySem.W.Frag) (mg : Str → Option Value) (base : Heap) (x : Str) (k : Nat) (sp : Addr × Obj → Sp) : Prop :=
  ∃ f fd ps, FnP P w K mg base k f fd ps sp ∧ mg x = some (.ref f) ∧ PySem.W.keepIn K (.ref f) = true ∧ Binds K fd ps []
def tFam (K : PySem.W.Frag) (cvs : List Value) (a : Addr) (cls : Value) (i : Nat) : TE := fun σ H Q => σ[i]? = some (some (.ref a)) ∧ (∀ cv ∈ cvs, PySem.W.kitOne K cls cv = some true) ∧ Q (.bl true) H
theorem pe_fam {X : Cx} {k i : Nat} {cvs : List Value} {x : Str} {a : Addr} {oe : Obj} {cls : Value} {dx : Option Addr} {pn : List (Addr × Obj)} {p pos : Pos} {e : Expr} (F : OkF X.prog X.w X.K X.mg X.base x k (spFam X.K cvs)) (hr : Room k X.A) (hz : Zc cls dx oe)
    (ha : PA (X.suite a ((a, oe) :: pn)) [e] (tCons (tVar i) tNil)) (hg : Gl X x := by rfl) (hdb : (x == ("__debug__" : Str)) = false := by decide) (he : starEach [e] X.env = (false, eval e X.env) :: starEach [] X.env := by rfl) :
    PE (X.suite a ((a, oe) :: pn)) (.Call (.Name x p) [e] [] pos) (tFam X.K cvs a cls i) := by
  obtain ⟨f, fd, ps, F, hm, hk, hb⟩ := F
  refine ⟨fun pins s σ H Q I h => ?_⟩
  refine (pe_callP (X := X.suite a ((a, oe) :: pn)) (q := (a, oe)) (pos := pos) F ⟨hr.dp, hr.un⟩ List.mem_cons_self hm hk hb ha hg hdb he rfl).run pins s σ H Q I ?_
  obtain ⟨h1, h2, h3⟩ := h
  exact ⟨.ref a, h1, rfl, cls, dx, hz, h2, h3⟩
def eFam (e : D) (cs : List Nat) : Env → Rs D := fun ρ => match e with
  | .ins c _ _ => if c ∈ cs then .ok (.bl true) ρ else .stuck
  | _ => .stuck
section
variable {Γ : Gm} {fr : Frm}
theorem ev_fam {q : XS} {cs : List Nat} {cvs : List Value} (hq : fr.xs = some q) (hf : ∀ c ∈ cs, ∀ cv ∈ cvs, PySem.W.kitOne Γ.K (.ref (Γ.cl c)) cv = some true) : EV Γ fr (tFam Γ.K cvs q.a q.cls q.i) (eFam q.e cs) := fun σ ρ G S c Q p => by
  obtain ⟨h1, k, ns, l, he, hc, hx⟩ := c.xsl q hq
  unfold eFam at p
  rw [he] at p
  have p2 : PostG (fun H v d => IsD Γ H v d) Γ fr σ G S Q (if k ∈ cs then .ok (.bl true) ρ else .stuck) := p
  by_cases hk : k ∈ cs
  · rw [if_pos hk] at p2
    exact ⟨h1, fun cv hcv => by rw [hc]; exact hf k hk cv hcv, PostG.give (d := D.bl true) p2 (Same.refl _) c (.bl _)⟩
  · rw [if_neg hk] at p2
    exact p2.elim
/-- isinstance(e, C), e the error that the suite holds -/
theorem ev_isY {q : XS} {cs : List Nat} {c : V} {cv : Value} (hq : fr.xs = some q) (hc : ClsV c cv) (hf : ∀ k ∈ cs, PySem.W.kitOne Γ.K (.ref (Γ.cl k)) cv = some true) : EV Γ fr (tCB (rIsY Γ.K q.cls q.a) (tCons (tVar q.i) (tCons (tC c) tNil))) (eFam q.e cs) := fun σ ρ G S co Q p => by
  obtain ⟨h1, k, ns, l, he, hcl, hx⟩ := co.xsl q hq
  unfold eFam at p
  rw [he] at p
  have p2 : PostG (fun H v d => IsD Γ H v d) Γ fr σ G S Q (if k ∈ cs then .ok (.bl true) ρ else .stuck) := p
  by_cases hk : k ∈ cs
  · rw [if_pos hk] at p2
    exact ⟨_, h1, c, cv, rfl, hc, by rw [hcl]; exact hf k hk, PostG.give (d := D.bl true) p2 (Same.refl _) co (.bl _)⟩
  · rw [if_neg hk] at p2
    exact p2.elim
end
/-- def f(e): return isinstance(e, A) and isinstance(e, B) -/
theorem okFam {P : Program} {w : World} {K : PySem.W.Frag} {mg : Str → Option Value} {base : Heap} {x qual y : Str} {st : Stmt} {f : Addr} {fd : FuncData} {c1 c2 : V} {cv1 cv2 : Value} (F : FunD K x qual (defArgs st) (defBody st) (defScope st) [] [] f fd) (S : FnScope [y] [y] (defScope st)) (h1 : ClsV c1 cv1) (h2 : ClsV c2 cv2)
    (hb : ∀ (cdv : Value) (A : Around) (outer : List PySem.Env) (s : Shared) (H : Hp) (q : Addr × Obj) (cls : Value) (dx : Option Addr), Zc cls dx q.2 → PSs (L2H.cxH (L2.CX P w) P w K mg base [y] qual (defScope st) f cdv A outer s H (fun _ _ _ => False) q) (defBody st)
      (tRet (tAndV (tCB (rIsY K cls q.1) (tCons (tVar 0) (tCons (tC c1) tNil))) (tCB (rIsY K cls q.1) (tCons (tVar 0) (tCons (tC c2) tNil)))))) :
    FnP P w K mg base 1 f fd [y] (spFam K [cv1, cv2]) := by
  refine fn_ofP F S (fun q vs H Q E h => by rw [h.1]; rfl) (fun cdv A outer s H vs Q q hr post => ?_)
  obtain ⟨rfl, cls, dx, hz, hc, fin⟩ := post
  exact ⟨_, hb cdv A outer s H q cls dx hz, _, rfl, c1, cv1, rfl, h1, hc cv1 (by simp), true, rfl, _, rfl, c2, cv2, rfl, h2, hc cv2 (by simp), fin⟩
theorem okf_all {P : Program} {w : World} {Γ : Gm} {mg : Str → Option Value} {base : Heap} {x qual : Str} {st : Stmt} {f : Addr} {k : Nat} {ps : List Str} {sp : Addr × Obj → Sp} (h : Stands Γ mg x qual st [] f)
    (ok : ∀ fd, FunD Γ.K x qual (defArgs st) (defBody st) (defScope st) [] [] f fd → FnP P w Γ.K mg base k f fd ps sp)
    (hb : ∀ (kV doc pm : Value) (an : Option Addr) (cdv ct : Value) (us : List Value), us.length = ps.length → bindArgs (PySem.W.fnOf x qual (defArgs st) (defBody st) (defScope st) .none kV doc pm an cdv ct) ⟨us, []⟩ = pure (ps.zip us)) :
    OkF P w Γ.K mg base x k sp := by
  obtain ⟨fd, F, hm⟩ := h
  exact ⟨f, fd, ps, ok fd F, hm, F.kp, F.bindsN hb⟩
/-- which classes an except clause takes -/
def isaL (l : List (Nat × Bool)) (c : Nat) : Option Bool := l.lookup c
theorem isaL_ok {K : PySem.W.Frag} {cl : Nat → Addr} {C : Value} {l : List (Nat × Bool)} (h : ∀ p ∈ l, PySem.W.exmOne K (.ref (cl p.1)) C = some p.2) : ∀ c b, isaL l c = some b → PySem.W.exmOne K (.ref (cl c)) C = some b := by
  intro c b e
  unfold isaL at e
  induction l with
  | nil => cases e
  | cons p r ih =>
    obtain ⟨c0, b0⟩ := p
    rw [List.lookup_cons] at e
    cases hc : (c == c0) with
    | true =>
      rw [hc] at e
      cases e
      cases beq_iff_eq.mp hc
      exact h _ List.mem_cons_self
    | false =>
      rw [hc] at e
      exact ih (fun p hp => h p (List.mem_cons_of_mem _ hp)) e
theorem bt_ValueError : bootBuiltins "ValueError" = some (.type "ValueError") := by decide +kernel
theorem bt_KeyError : bootBuiltins "KeyError" = some (.type "KeyError") := by decide +kernel
end Py

set_option Elab.async false
set_option linter.all false
set_option maxRecDepth 100000
set_option maxHeartbeats 2000000
namespace Py
open PySem L2 He
open PyProof.Rows (envOfC)
theorem ini_at {P : Program} {w : World} {K : PySem.W.Frag} {mg : Str → Option Value} {base : Heap} {x : Str} {sp : Sp} {fd : FuncData} {ps : List Str} (he : OexC K (ga K x)) (hm : mg x = some (.ref (ga K x))) (c : fIni x K = true) (F : FnOk P w K mg base (L2.CX P w) 1 (ma K (ga K x) "__init__") fd ps sp) (hb : Binds K fd ps []) : ExcI P w K mg base x (ga K x) sp := by
  obtain ⟨h1, h2⟩ := ba c
  exact ⟨he, hm, _, fd, ps, eqO_ok h1, of_decide_eq_true h2, F, hb⟩
/-- the law's promise, from its mirror -/
theorem spP_law {Γ : Gm} {m : List D → Rf D} {H : Hp} {a : Addr} {ns : List Int} (hS : SqL Γ.K H a (ns.map V.int)) (hm : m [.scr ns] = .ok (.bl true)) : spP Γ 1 m [.ref a] H (fun v _ => v = .bl true) (fun _ _ _ => False) := by
  refine ⟨rfl, fun _ => False, [.scr ns], fun _ z => z.elim, .cons (.scr ?_) .nil, ?_⟩
  · have e : hide (fun _ => False) H = H := by
      funext b
      unfold hide
      exact if_neg (fun z => z)
    rw [e]
    exact hS
  · rw [hm]
    intro v G' _ hv
    cases hv
    rfl
/-- a def that lets nothing out -/
def shutS (sp : Sp) : Sp := fun vs H Q _ => sp vs H Q (fun _ _ _ => False)
theorem shut {P : Program} {w : World} {K : PySem.W.Frag} {mg : Str → Option Value} {base : Heap} {k : Nat} {f : Addr} {fd : FuncData} {ps : List Str} {sp : Sp} (F : FnOk P w K mg base (L2.CX P w) k f fd ps sp) : FnOk P w K mg base CX0 k f fd ps (shutS sp) := by
  refine ⟨fun vs H Q E h => F.len vs H Q _ h, fun A outer s H args us vs Q E hr e0 hb r h => codeAny_mono (F.run A outer s H args us vs Q (fun _ _ _ => False) hr e0 hb r h) fun rr s2 z => ?_⟩
  cases rr with
  | error e =>
    obtain ⟨_, _, _, _, _, _, _, _, _, _, _, _, z⟩ := z
    exact z.elim
  | ok fl =>
    cases fl with
    | ret u => exact z
    | next => exact z
    | brk => exact z
    | cont => exact z
end Py

set_option Elab.async false
set_option linter.all false
set_option maxRecDepth 100000
set_option maxHeartbeats 1000000
namespace Py
open PySem L2
/-! ## 16. The mirror's values, step by step -/
section
variable {ρ ρ1 ρ2 : Py.Env} {a b c d : D} {ma mb mc : Py.Env → Rs D} {ta tb : Py.Env → Rs Bool} {la : Py.Env → Rs (List D)} {s t : Py.Env → Out} {r : Out} {i n : Nat} {ds : List D} {x : Bool}
theorem eVar_of (h : ρ[i]? = some (some d)) : eVar i ρ = .ok d ρ := by unfold eVar; rw [h]
theorem eBin_of {f : D → D → Option D} (h1 : ma ρ = .ok a ρ1) (h2 : mb ρ1 = .ok b ρ2) (h3 : f a b = some c) : eBin f ma mb ρ = .ok c ρ2 := by unfold eBin; rw [h1]; show (mb ρ1).bind _ = _; rw [h2]; show Rs.ofOpt (f a b) ρ2 = _; rw [h3]; rfl
theorem eUn_of {f : D → Option D} (h1 : ma ρ = .ok a ρ1) (h3 : f a = some c) : eUn f ma ρ = .ok c ρ1 := by unfold eUn; rw [h1]; show Rs.ofOpt (f a) ρ1 = _; rw [h3]; rfl
theorem aCons_of (h1 : ma ρ = .ok a ρ1) (h2 : la ρ1 = .ok ds ρ2) : aCons ma la ρ = .ok (a :: ds) ρ2 := by unfold aCons; rw [h1]; show (la ρ1).bind _ = _; rw [h2]; rfl
theorem aF_of {f : List D → Option D} (h1 : la ρ = .ok ds ρ1) (h3 : f ds = some c) : aF f la ρ = .ok c ρ1 := by unfold aF; rw [h1]; show Rs.ofOpt (f ds) ρ1 = _; rw [h3]; rfl
theorem app0 {dd : List D} : [] ++ dd = dd := rfl
theorem app1 {dd : List D} : [a] ++ dd = a :: dd := rfl
theorem app2 {dd : List D} : [a, b] ++ dd = a :: b :: dd := rfl
theorem app3 {dd : List D} : [a, b, c] ++ dd = a :: b :: c :: dd := rfl
theorem eCall_of {f : List D → Rf D} {dd es : List D} (h1 : la ρ = .ok ds ρ1) (he : ds ++ dd = es) (hn : es.length = n) (h2 : f es = .ok d) : eCall n f dd la ρ = .ok d ρ1 := by subst he; unfold eCall; rw [h1]; show (if (ds ++ dd).length = n then _ else _) = _; rw [if_pos hn, h2]; rfl
theorem eCall_exc {f : List D → Rf D} {dd es : List D} (h1 : la ρ = .ok ds ρ1) (he : ds ++ dd = es) (hn : es.length = n) (h2 : f es = .exc d) : eCall n f dd la ρ = .exc d ρ1 := by subst he; unfold eCall; rw [h1]; show (if (ds ++ dd).length = n then _ else _) = _; rw [if_pos hn, h2]; rfl
theorem eCallN_of {f : List D → Rf D} {dd es : List D} (h1 : la ρ = .ok ds ρ1) (he : ds ++ dd = es) (hn : es.length = n) (h2 : f es = .ok d) : eCallN n f dd la ρ = .ok d ρ1 := by subst he; unfold eCallN; rw [h1]; show (if (ds ++ dd).length = n then _ else _) = _; rw [if_pos hn, h2]
theorem eCallH_of {f : List D → List D → Rf (D × List D)} {l0 l l' : List D} (h0 : ownL ρ i = some l0) (h1 : la ρ = .ok ds ρ1) (hn : ds.length + 1 = n) (h : ownL ρ1 i = some l) (h2 : f l ds = .ok (d, l')) : eCallH i n f la ρ = .ok d (ρ1.set i (some (.lst l'))) := by
  unfold eCallH; rw [h0]; show (la ρ).bind _ = _; rw [h1]; show (if ds.length + 1 = n then _ else _) = _; rw [if_pos hn, h]; show (match f l ds with | .ok (d, l') => Rs.ok d (ρ1.set i (some (.lst l'))) | _ => .stuck) = _; rw [h2]
theorem eIxOwn_of {l0 l : List D} (h0 : ownL ρ i = some l0) (h1 : ma ρ = .ok a ρ1) (h : ownL ρ1 i = some l) (h2 : dIx (.lst l) a = some d) : eIxOwn i ma ρ = .ok d ρ1 := by
  unfold eIxOwn; rw [h0]; show (ma ρ).bind _ = _; rw [h1]; show (match ownL ρ1 i with | none => Rs.stuck | some l => Rs.ofOpt (dIx (.lst l) a) ρ1) = _; rw [h]; show Rs.ofOpt (dIx (.lst l) a) ρ1 = _; rw [h2]; rfl
theorem eMove_of {l : List D} (h : ownL ρ i = some l) : eMove i ρ = .ok (.lst l) (ρ.set i none) := by unfold eMove; rw [h]
theorem aOwn_of {f : List D → Option D} {l : List D} (h : ownL ρ i = some l) (h2 : f l = some d) : aOwn f i ρ = .ok d ρ := by unfold aOwn; rw [h]; show Rs.ofOpt (f l) ρ = _; rw [h2]; rfl
theorem eAnd_of (h1 : ma ρ = .ok (.bl x) ρ1) {r : Rs D} (h2 : (if x = true then mb ρ1 else .ok (.bl false) ρ1) = r) : eAnd ma mb ρ = r := by unfold eAnd; rw [h1]; cases x <;> exact h2
theorem eOr_of (h1 : ma ρ = .ok (.bl x) ρ1) {r : Rs D} (h2 : (if x = true then .ok (.bl true) ρ1 else mb ρ1) = r) : eOr ma mb ρ = r := by unfold eOr; rw [h1]; cases x <;> exact h2
theorem eNot_of (h1 : ma ρ = .ok (.bl x) ρ1) : eNot ma ρ = .ok (.bl !x) ρ1 := by unfold eNot; rw [h1]; rfl
theorem eIf_of (h1 : ta ρ = .ok x ρ1) {r : Rs D} (h2 : (if x = true then ma ρ1 else mb ρ1) = r) : eIf ta ma mb ρ = r := by unfold eIf; rw [h1]; exact h2
theorem tfB_of (h1 : ma ρ = .ok (.bl x) ρ1) : tfB ma ρ = .ok x ρ1 := by unfold tfB; rw [h1]; rfl
theorem tfT_of (h1 : ma ρ = .ok a ρ1) (h2 : truthD a = some x) : tfT ma ρ = .ok x ρ1 := by unfold tfT; rw [h1]; show Rs.ofOpt (truthD a) ρ1 = _; rw [h2]; rfl
theorem tfAnd_of (h1 : ta ρ = .ok x ρ1) {r : Rs Bool} (h2 : (if x = true then tb ρ1 else .ok false ρ1) = r) : tfAnd ta tb ρ = r := by unfold tfAnd; rw [h1]; exact h2
theorem tfOr_of (h1 : ta ρ = .ok x ρ1) {r : Rs Bool} (h2 : (if x = true then .ok true ρ1 else tb ρ1) = r) : tfOr ta tb ρ = r := by unfold tfOr; rw [h1]; exact h2
theorem tfNot_of (h1 : ta ρ = .ok x ρ1) : tfNot ta ρ = .ok (!x) ρ1 := by unfold tfNot; rw [h1]; rfl
theorem sSeq_nx (h1 : s ρ = .nx ρ1) (h2 : t ρ1 = r) : sSeq s t ρ = r := by unfold sSeq; rw [h1]; exact h2
theorem sSeqN_nx (h1 : s ρ = .nx ρ1) (h2 : t ρ1 = r) : sSeqN s t ρ = r := by unfold sSeqN; rw [h1]; exact h2
theorem sSeq_ret (h1 : s ρ = .ret d ρ1) : sSeq s t ρ = .ret d ρ1 := by unfold sSeq; rw [h1]
theorem sSeq_exc (h1 : s ρ = .exc d ρ1) : sSeq s t ρ = .exc d ρ1 := by unfold sSeq; rw [h1]
/-- the first part's end, then the rest -/
def thenO (t : Py.Env → Out) : Out → Out
  | .nx ρ => t ρ
  | r => r
theorem sSeq_of {r1 : Out} (h1 : s ρ = r1) (h2 : thenO t r1 = r) : sSeq s t ρ = r := by subst h1; rw [← h2]; unfold sSeq thenO; cases s ρ <;> rfl
theorem sNext_of : sNext ρ = .nx ρ := rfl
theorem sBrk_of : sBrk ρ = .brk ρ := rfl
theorem sCt_of : sCt ρ = .ct ρ := rfl
theorem sRetN_of : sRetN ρ = .ret .non ρ := rfl
theorem thenO_nx (h : t ρ = r) : thenO t (.nx ρ) = r := h
theorem thenO_ret : thenO t (.ret d ρ) = .ret d ρ := rfl
theorem thenO_exc : thenO t (.exc d ρ) = .exc d ρ := rfl
theorem sSet_of (h1 : ma ρ = .ok a ρ1) : sSet i ma ρ = .nx (ρ1.set i (some a)) := by unfold sSet; rw [h1]; rfl
theorem sSet_to (h1 : ma ρ = .ok a ρ1) (h2 : Out.nx (ρ1.set i (some a)) = r) : sSet i ma ρ = r := (sSet_of h1).trans h2
theorem sSet_exc (h1 : ma ρ = .exc a ρ1) : sSet i ma ρ = .exc a ρ1 := by unfold sSet; rw [h1]; rfl
theorem sRet_of (h1 : ma ρ = .ok a ρ1) : sRet ma ρ = .ret a ρ1 := by unfold sRet; rw [h1]; rfl
theorem sRet_exc (h1 : ma ρ = .exc a ρ1) : sRet ma ρ = .exc a ρ1 := by unfold sRet; rw [h1]; rfl
theorem sExpr_of (h1 : ma ρ = .ok a ρ1) : sExpr ma ρ = .nx ρ1 := by unfold sExpr; rw [h1]; rfl
theorem sIf_of (h1 : ta ρ = .ok x ρ1) (h2 : (if x = true then s ρ1 else t ρ1) = r) : sIf ta s t ρ = r := by unfold sIf; rw [h1]; exact h2
theorem sAsg_of {mg : D → Py.Env → Option Py.Env} (h1 : ma ρ = .ok a ρ1) (h2 : mg a ρ1 = some ρ2) : sAsg mg ma ρ = .nx ρ2 := by unfold sAsg; rw [h1]; show (match mg a ρ1 with | some ρ2 => Out.nx ρ2 | none => Out.stuck) = _; rw [h2]
theorem sPar_of {j : Nat} (h1 : la ρ = .ok [a, b] ρ1) : sPar i j la ρ = .nx ((ρ1.set i (some a)).set j (some b)) := by unfold sPar; rw [h1]; rfl
theorem sApp_of {l0 l : List D} (h0 : ownL ρ i = some l0) (h1 : ma ρ = .ok a ρ1) (h : ownL ρ1 i = some l) (hl : l.length < 1000000) : sApp i ma ρ = .nx (ρ1.set i (some (.lst (l ++ [a])))) := by
  unfold sApp; rw [h0]; show (ma ρ).out _ = _; rw [h1]; show (match ownL ρ1 i with | none => Out.stuck | some l => if l.length < 1000000 then .nx (ρ1.set i (some (.lst (l ++ [a])))) else .stuck) = _; rw [h]; exact if_pos hl
theorem sSetIx_of {mk : Py.Env → Rs D} {l0 l : List D} {z : Int} {j : Nat} (h1 : ma ρ = .ok a ρ1) (h0 : ownL ρ1 i = some l0) (h2 : mk ρ1 = .ok (.int z) ρ2) (h : ownL ρ2 i = some l) (hj : ixN l.length z = some j) : sSetIx i mk ma ρ = .nx (ρ2.set i (some (.lst (l.set j a)))) := by
  unfold sSetIx; rw [h1]; show (match ownL ρ1 i with | none => Out.stuck | some _ => (mk ρ1).out _) = _; rw [h0]; show (mk ρ1).out _ = _; rw [h2]; show (match ownL ρ2 i, D.int z with | some l, .int n => (match ixN l.length n with | some j => Out.nx (ρ2.set i (some (.lst (l.set j a)))) | none => .stuck) | _, _ => .stuck) = _; rw [h]; show (match ixN l.length z with | some j => Out.nx (ρ2.set i (some (.lst (l.set j a)))) | none => .stuck) = _; rw [hj]
theorem sPar_to {j : Nat} (h1 : la ρ = .ok [a, b] ρ1) (h2 : Out.nx ((ρ1.set i (some a)).set j (some b)) = r) : sPar i j la ρ = r := (sPar_of h1).trans h2
theorem sApp_to {l0 l : List D} (h0 : ownL ρ i = some l0) (h1 : ma ρ = .ok a ρ1) (h : ownL ρ1 i = some l) (hl : l.length < 1000000) (h2 : Out.nx (ρ1.set i (some (.lst (l ++ [a])))) = r) : sApp i ma ρ = r := (sApp_of h0 h1 h hl).trans h2
theorem sSetIx_to {mk : Py.Env → Rs D} {l0 l : List D} {z : Int} {j : Nat} (h1 : ma ρ = .ok a ρ1) (h0 : ownL ρ1 i = some l0) (h2 : mk ρ1 = .ok (.int z) ρ2) (h : ownL ρ2 i = some l) (hj : ixN l.length z = some j) (h3 : Out.nx (ρ2.set i (some (.lst (l.set j a)))) = r) : sSetIx i mk ma ρ = r := (sSetIx_of h1 h0 h2 h hj).trans h3
theorem sFor_of {mi : Py.Env → Rs (List D)} {mg : D → Py.Env → Option Py.Env} (h1 : mi ρ = .ok ds ρ1) (h2 : forL mg s ds ρ1 = r) : sFor mi mg s ρ = r := by unfold sFor; rw [h1]; exact h2
theorem iSeqM_of {l : List D} (h1 : ma ρ = .ok a ρ1) (h2 : itemsD a = some l) : iSeqM ma ρ = .ok l ρ1 := by unfold iSeqM; rw [h1]; show Rs.ofOpt (itemsD a) ρ1 = _; rw [h2]; rfl
theorem rng1M_of {j : Int} (h1 : la ρ = .ok [.int j] ρ1) (h : -(2 ^ 62) ≤ j ∧ j < 2 ^ 62) : rng1M la ρ = .ok (rngD 0 j) ρ1 := by unfold rng1M; rw [h1]; exact if_pos h
theorem sRaise1_of {c : Nat} {f : Str} (h1 : ma ρ = .ok a ρ1) : sRaise1 c f ma ρ = .exc (.ins c [f] [a]) ρ1 := by unfold sRaise1; rw [h1]; rfl
/-- a try whose body lets nothing out -/
theorem sTry_nx {isa : Nat → Option Bool} {mh : D → Py.Env → Out} (h1 : s ρ = .nx ρ1) : sTry i isa s mh ρ = .nx ρ1 := by unfold sTry; rw [h1]
theorem sTry_exc {isa : Nat → Option Bool} {mh : D → Py.Env → Out} {k : Nat} {ns : List Str} {l : List D} (h1 : s ρ = .exc (.ins k ns l) ρ1) (h2 : isa k = some true) (hi : i < ρ1.length) (h3 : behind i (mh (.ins k ns l) (ρ1.set i none)) = r) : sTry i isa s mh ρ = r := by
  unfold sTry; rw [h1]; show (match isa k with | some true => if i < ρ1.length then behind i (mh (.ins k ns l) (ρ1.set i none)) else .stuck | some false => .exc (.ins k ns l) ρ1 | none => .stuck) = r; rw [h2]; show (if i < ρ1.length then behind i (mh (.ins k ns l) (ρ1.set i none)) else .stuck) = r; rw [if_pos hi]; exact h3
theorem runF_ret {m : Py.Env → Out} (h : m (entry n ds) = .ret d ρ) : runF n m ds = .ok d := by unfold runF; rw [h]
theorem runF_exc {m : Py.Env → Out} (h : m (entry n ds) = .exc d ρ) : runF n m ds = .exc d := by unfold runF; rw [h]
theorem runN_ret {m : Py.Env → Out} (h : m (entry n ds) = .ret d ρ) : runN n m ds = .ok d := by unfold runN; rw [h]
theorem runH_ret {m : Py.Env → Out} {l l' : List D} (h : m (entry n (.lst l :: ds)) = .ret d ρ) (h2 : ownL ρ 0 = some l') : runH n m l ds = .ok (d, l') := by unfold runH; rw [h]; show (match ownL ρ 0 with | some l' => Rf.ok (d, l') | none => .stuck) = _; rw [h2]
theorem pos_of {α : Type} {p : Bool} {y z r : α} (hp : p = true) (h : y = r) : (if p = true then y else z) = r := by rw [if_pos hp]; exact h
theorem neg_of {α : Type} {p : Bool} {y z r : α} (hp : p = false) (h : z = r) : (if p = true then y else z) = r := by rw [hp]; exact h
end
theorem eLc_of {ρ ρ1 ρ2 : Py.Env} {mi : Py.Env → Rs (List D)} {mg : D → Py.Env → Option Py.Env} {mt : Py.Env → Rs Bool} {me : Py.Env → Rs D} {vs : List Nat} {ds l : List D} {r : Rs D} (h1 : mi ρ = .ok ds ρ1) (hl : ds.length ≤ 1000000) (h2 : lcL mg mt me vs ds [] ρ1 = .ok l ρ2) (h3 : Rs.ok (D.lst l) (restE ρ1 ρ2 vs) = r) : eLc mi mg mt me vs ρ = r := by
  unfold eLc; rw [h1]; show (if ds.length ≤ 1000000 then (match lcL mg mt me vs ds [] ρ1 with | .ok l ρ2 => Rs.ok (D.lst l) (restE ρ1 ρ2 vs) | _ => Rs.stuck) else Rs.stuck) = r; rw [if_pos hl, h2]; exact h3
theorem lcL_go {mg : D → Py.Env → Option Py.Env} {me : Py.Env → Rs D} {vs : List Nat} {d y : D} {ds acc : List D} {ρ ρ1 ρ3 : Py.Env} (h1 : mg d (wipeE ρ vs) = some ρ1) (h2 : me ρ1 = .ok y ρ3) : lcL mg lYes me vs (d :: ds) acc ρ = lcL mg lYes me vs ds (acc ++ [y]) ρ3 := by
  conv => lhs; unfold lcL
  rw [h1]
  show (match lYes ρ1 with | .ok true ρ2 => (match me ρ2 with | .ok y ρ3 => lcL mg lYes me vs ds (acc ++ [y]) ρ3 | _ => Rs.stuck) | .ok false ρ2 => lcL mg lYes me vs ds acc ρ2 | _ => Rs.stuck) = _
  unfold lYes
  show (match me ρ1 with | .ok y ρ3 => lcL mg _ me vs ds (acc ++ [y]) ρ3 | _ => Rs.stuck) = _
  rw [h2]
theorem truthD_int (i : Int) : truthD (.int i) = some (!decide (i = 0)) := by
  by_cases h : i = 0
  · subst h; rfl
  · show some (i != 0) = _
    rw [decide_eq_false h]
    exact congrArg some (bne_iff_ne.mpr h)
/-! ### numbers -/
theorem bits_of {i : Int} {k : Nat} (h : i.natAbs < 2 ^ k) (hk : 0 < k) : bits i < k := by
  unfold bits
  by_cases h0 : i.natAbs = 0
  · rw [h0]; exact hk
  · exact (Nat.log2_lt h0).mpr h
theorem ok_int (n : Nat) (i : Int) : okD n (.int i) = true := by cases n <;> rfl
theorem eqv_int (i j : Int) : PyData.eqv (.int i) (.int j) = decide (i = j) := by
  unfold PyData.eqv
  first | rfl | simp [PyData.eqv] | (by_cases h : i = j <;> simp [h])
theorem dEq_int (i j : Int) : dEq (.int i) (.int j) = some (.bl (decide (i = j))) := by
  unfold dEq eqvD
  rw [ok_int, ok_int]
  show some (D.bl (PyData.eqv (.int i) (.int j))) = _
  rw [eqv_int]
theorem dNe_int (i j : Int) : dNe (.int i) (.int j) = some (.bl (!decide (i = j))) := by
  unfold dNe eqvD
  rw [ok_int, ok_int]
  show some (D.bl (!PyData.eqv (.int i) (.int j))) = _
  rw [eqv_int]
/-- a bound by bits, kept folded -/
def Bd (k : Nat) (i : Int) : Prop := i.natAbs < 2 ^ k
theorem Bd.mono {j k : Nat} {i : Int} (h : Bd j i) (hj : j ≤ k) : Bd k i := Nat.lt_of_lt_of_le h (Nat.pow_le_pow_right (by decide) hj)
theorem Bd.mul {j k : Nat} {a b : Int} (h : Bd j a) (g : Bd k b) : Bd (j + k) (a * b) := by
  unfold Bd at *
  rw [Int.natAbs_mul, Nat.pow_add]
  exact Nat.mul_lt_mul'' h g
theorem Bd.add {k : Nat} {a b : Int} (h : Bd k a) (g : Bd k b) : Bd (k + 1) (a + b) := by
  unfold Bd at *
  have := Int.natAbs_add_le a b
  rw [Nat.pow_succ]
  omega
theorem Bd.neg {k : Nat} {a : Int} (h : Bd k a) : Bd k (-a) := by unfold Bd at *; rw [Int.natAbs_neg]; exact h
theorem Bd.sub {k : Nat} {a b : Int} (h : Bd k a) (g : Bd k b) : Bd (k + 1) (a - b) := by
  rw [Int.sub_eq_add_neg]; exact h.add g.neg
theorem Bd.bits {k : Nat} {a : Int} (h : Bd (k + 1) a) : bits a < k + 1 := bits_of h (Nat.succ_pos k)
theorem bits_le {k : Nat} {a : Int} (h : Bd k a) : bits a ≤ k := by
  cases k with
  | zero =>
    have e : a.natAbs = 0 := by unfold Bd at h; omega
    unfold Py.bits
    rw [e]; decide
  | succ k => exact Nat.le_of_lt h.bits
theorem dMul_of {j k : Nat} {a b : Int} (h : Bd j a) (g : Bd k b) (hs : j + k < 900000) : dMul (.int a) (.int b) = some (.int (a * b)) := by
  have h1 := bits_le h
  have h2 := bits_le g
  unfold dMul
  exact if_pos (by omega)
theorem dFdiv_of {k : Nat} {a b : Int} (h : Bd k b) (hs : k < 8000) (hb : b ≠ 0) : dFdiv (.int a) (.int b) = some (.int (a.fdiv b)) := by
  have h1 := bits_le h
  unfold dFdiv
  exact if_pos ⟨hb, by omega⟩
theorem bd64 {a : Int} (h1 : -(2 ^ 64) < a) (h2 : a < 2 ^ 64) : Bd 64 a := by unfold Bd; omega
theorem dMul64 {a b : Int} (h1 : -(2 ^ 64) < a) (h2 : a < 2 ^ 64) (h3 : -(2 ^ 64) < b) (h4 : b < 2 ^ 64) : dMul (.int a) (.int b) = some (.int (a * b)) := dMul_of (bd64 h1 h2) (bd64 h3 h4) (by decide)
theorem dFdiv64 {a b : Int} (h0 : b ≠ 0) (h1 : -(2 ^ 64) < b) (h2 : b < 2 ^ 64) : dFdiv (.int a) (.int b) = some (.int (a.fdiv b)) := dFdiv_of (bd64 h1 h2) (by decide) h0
theorem dMod_of {a b : Int} (hb : b ≠ 0) : dMod (.int a) (.int b) = some (.int (a.fmod b)) := by unfold dMod; exact if_pos hb
theorem fmod_lo {a b : Int} (h : 0 < b) : 0 ≤ a.fmod b := Int.fmod_nonneg_of_pos a h
theorem fmod_hi {a b : Int} (h : 0 < b) : a.fmod b < b := Int.fmod_lt_of_pos a h
theorem atI_of {α : Type} {l : List α} {i : Int} {n : Nat} {x : α} (hi : i = n) (h : l[n]? = some x) : atI l i = some x := by
  have hl := (List.getElem?_eq_some_iff.mp h).1
  unfold atI ixN
  subst hi
  rw [if_pos (by omega), if_pos (by omega)]
  simpa using h
theorem forL_inv {mg : D → Py.Env → Option Py.Env} {mb : Py.Env → Out} (I : Nat → Py.Env → Prop) : ∀ (ds : List D) (n : Nat) (ρ : Py.Env), I n ρ → (∀ k d ρ, ds[k]? = some d → I (n + k) ρ → ∃ ρ1 ρ2, mg d ρ = some ρ1 ∧ mb ρ1 = .nx ρ2 ∧ I (n + k + 1) ρ2) → ∃ ρ', forL mg mb ds ρ = .nx ρ' ∧ I (n + ds.length) ρ'
  | [], n, ρ, h, _ => ⟨ρ, rfl, h⟩
  | d :: ds, n, ρ, h, step => by
    obtain ⟨ρ1, ρ2, e1, e2, h2⟩ := step 0 d ρ rfl h
    obtain ⟨ρ', e3, h3⟩ := forL_inv I ds (n + 1) ρ2 h2 (fun k d ρ hk hI => by
      have := step (k + 1) d ρ (by simpa using hk) (by rwa [show n + (k + 1) = n + 1 + k by omega])
      rwa [show n + (k + 1) + 1 = n + 1 + k + 1 by omega] at this)
    refine ⟨ρ', ?_, by rwa [List.length_cons, show n + (ds.length + 1) = n + 1 + ds.length by omega]⟩
    show (match mg d ρ with | none => Out.stuck | some ρ1 => _) = _
    rw [e1]
    show (match mb ρ1 with | .nx ρ2 => forL mg mb ds ρ2 | .ct ρ2 => forL mg mb ds ρ2 | .brk ρ2 => .nx ρ2 | .ret d ρ2 => .ret d ρ2 | .exc e ρ2 => .exc e ρ2 | .stuck => .stuck) = _
    rw [e2]
    exact e3
end Py

set_option Elab.async false
set_option linter.all false
set_option maxRecDepth 100000
set_option maxHeartbeats 2000000
namespace Py
open PySem L2
open PyProof.Rows (envOfC)
/-! ## 17. Errors as values -/
def tMkV (C : Addr) (sp : Sp) (ta : TA) : TE := fun σ H Q => ta σ H fun vs H1 => vs.length ≤ 1000 ∧ ∀ a, H1 a = none → sp (.ref a :: vs) (upd H1 a (exo a C none)) (fun v H2 => v = .non ∧ Q (.ref a) H2) (fun _ _ _ => False)
section
variable {X : Cx} {e : Expr} {es : List Expr} {ta : TA} {p pos : Pos} {x : Str} {C : Addr} {sp : Sp} {W : WX}
theorem mk_run {pins : List (Addr × Obj)} {σ : L2.St} {H1 : Hp} {s1 : Shared} {us : List Value} {vs : List V} {Q : VK} (F : ExcI X.prog X.w X.K X.mg X.base x C sp) (hr : Room 2 X.A) (hx : Passes (L2.CX X.prog X.w) X (fun _ _ _ => False)) (I1 : Inv X pins σ H1 s1) (r1 : Vals vs us) (hz : vs.length ≤ 1000)
    (q1 : ∀ a, H1 a = none → sp (.ref a :: vs) (upd H1 a (exo a C none)) (fun v H2 => v = .non ∧ Q (.ref a) H2) (fun _ _ _ => False)) : wpAny (model X.prog X.w) X.A (call (.ref C) us) (EP X pins σ Q) X.xe s1 := by
  obtain ⟨T, hm, fI, fd, ps, iC, tI, F1, hb⟩ := F
  obtain ⟨nm, qn, N, bs, bm, sn, sub, ab, col, dd, k0, k1, k2, k3, k5, hC, hbm⟩ := T.cls
  obtain ⟨hp, g, dr, tk, os⟩ := s1
  obtain ⟨a, ea⟩ : ∃ a, a = hp.objs.size + 1 := ⟨_, rfl⟩
  have hsz : hp.objs.size ≤ a := by omega
  have hn : H1 a = none := I1.hok.fresh hsz
  have hq := q1 a hn
  have get : ((hp.push (PySem.W.kdv_tup us)).push (PySem.HandSPX.excO C hp.objs.size)).get? a = some (PySem.HandSPX.excO C hp.objs.size) := by rw [ea]; heap_get
  have keep : ∀ b o, hp.get? b = some o → ((hp.push (PySem.W.kdv_tup us)).push (PySem.HandSPX.excO C hp.objs.size)).get? b = some o := fun b o z => Heap.get?_push_of_some _ (Heap.get?_push_of_some _ z)
  have I2 := I1.laid (t' := tk) (a := a) (o := exo a C none) (h' := (hp.push (PySem.W.kdv_tup us)).push (PySem.HandSPX.excO C hp.objs.size)) keep hsz (exo_ok get)
  have r2 : Vals (V.ref a :: vs) (Value.ref a :: us) := .cons rfl r1
  have hl : (Value.ref a :: us).length = ps.length := by rw [← r2.length]; exact F1.len _ _ _ _ hq
  have hus : us.length ≤ sizeLine := by
    rw [← Paired.length r1, sizeLine_eq]
    omega
  have hb2 := hb _ (Value.ref a :: us) I2.kIn (by rw [List.append_nil]; exact hl)
  rw [List.append_nil] at hb2
  rw [ea] at I2 r2 hb2 hq
  refine wpAny_call (PySem.HandSPX.call_own F.excBase_ValueError (fun Y => PySem.HandSPX.refsVE_contains Y bm hbm) (I1.kIn _ _ hC) (PySem.W.looks_findIn I1.kIn iC) (fun self => PySem.W.bind_fn I1.kIn self tI) hus
    (codeAny_mono (F1.run _ X.stack _ _ ⟨Value.ref (hp.objs.size + 1) :: us, []⟩ (Value.ref (hp.objs.size + 1) :: us) _ _ (fun _ _ _ => False) (hr.make C us []) (I2.env0.make C us []) hb2 r2 hq) fun rr s2 done => ?_))
  cases rr with
  | error er => exact hx pins σ _ _ er s2 I2 done
  | ok fl =>
    cases fl with
    | ret u =>
      obtain ⟨v, H2, I3, rv, ⟨ev, q2⟩⟩ := I2.after done
      subst ev
      exact ⟨rv, ⟨V.ref (hp.objs.size + 1), H2, I3, rfl, q2⟩⟩
    | next => exact done.elim
    | brk => exact done.elim
    | cont => exact done.elim
theorem pe_mkV (F : ExcI X.prog X.w X.K X.mg X.base x C sp) (hr : Room 2 X.A) (hx : Passes (L2.CX X.prog X.w) X (fun _ _ _ => False)) (ha : PA X (e :: es) ta) (hg : Gl X x := by rfl)
    (hdb : (x == ("__debug__" : Str)) = false := by decide) (he : starEach (e :: es) X.env = (false, eval e X.env) :: starEach es X.env := by rfl) (hpl : (backTo pos (starEach es X.env)).any (·.1) = false := by rfl) :
    PE X (.Call (.Name x p) (e :: es) [] pos) (tMkV C sp ta) := by
  refine ⟨fun pins s σ H Q I h => wpAny_Call_Name_kw (ld_glob I hg F.2.1 ?_ hdb)⟩
  exact PySem.W.callWith_K (h₀ := X.base) I.ok.mod.kin F.1.kC (thn (ha.run pos pins s σ H _ I h) fun us s1 ⟨vs, H1, I1, r1, hz, q1⟩ => ⟨I1.kIn, mk_run F hr hx I1 r1 hz q1⟩) he hpl
theorem pe_mkV0 (F : ExcI X.prog X.w X.K X.mg X.base x C sp) (hr : Room 2 X.A) (hx : Passes (L2.CX X.prog X.w) X (fun _ _ _ => False)) (hg : Gl X x := by rfl) (hdb : (x == ("__debug__" : Str)) = false := by decide) : PE X (.Call (.Name x p) [] [] pos) (tMkV C sp tNil) := by
  refine ⟨fun pins s σ H Q I h => wpAny_Call_Name_kw (ld_glob I hg F.2.1 ?_ hdb)⟩
  obtain ⟨hz, q1⟩ := h
  exact PySem.W.callWith_K0 I.kIn F.1.kC (mk_run (us := []) F hr hx I .nil hz q1)
end
end Py

set_option Elab.async false
set_option linter.all false
set_option maxRecDepth 100000
set_option maxHeartbeats 2000000
namespace Py
open PySem L2
open PyProof.Rows (envOfC)
/-! ## 18. try with many handlers, each with or without a name -/
structure HdT where
  c : Value
  i : Option Nat
  ts : Addr → Value → Option Addr → TS
def putN (i : Option Nat) (v : Option V) (σ : L2.St) : L2.St := match i with
  | some i => σ.set i v
  | none => σ
def endN (i : Option Nat) (D : Ends) : Ends := { nx := fun τ G => D.nx (putN i none τ) G, rt := D.rt, bk := fun τ G => D.bk (putN i none τ) G, ct := fun τ G => D.ct (putN i none τ) G }
def wAll (K : PySem.W.Frag) (Wo : WX) (D : Ends) : List HdT → WX
  | [] => Wo
  | h :: r => fun cls d σ G => ∃ b, PySem.W.exmOne K cls h.c = some b ∧ (b = true → ∀ a, G a = none → h.ts a cls d (endN h.i D) (putN h.i (some (.ref a)) σ) G) ∧ (b = false → wAll K Wo D r cls d σ G)
inductive HdA (X : Cx) : List ExceptHandler → List HdT → Prop
  | nil : HdA X [] []
  | bare {x : Str} {c : Value} {ts : Addr → Value → Option Addr → TS} {s0 : Stmt} {su : List Stmt} {p1 p2 : Pos} {hs : List ExceptHandler} {l : List HdT} (hc : Names X x c)
      (hsu : ∀ (a : Addr) (oe : Obj) (cls : Value) (d : Option Addr) (pn : List (Addr × Obj)), Zc cls d oe → (∃ z, oe.data = .fields z) → PSs (X.suite a ((a, oe) :: pn)) (s0 :: su) (ts a cls d)) (r : HdA X hs l) : HdA X (.ExceptHandler (some (.Name x p1)) none (s0 :: su) p2 :: hs) (⟨c, none, ts⟩ :: l)
  | named {x n : Str} {i : Nat} {c : Value} {ts : Addr → Value → Option Addr → TS} {s0 : Stmt} {su : List Stmt} {p1 p2 : Pos} {hs : List ExceptHandler} {l : List HdT} (hc : Names X x c) (hN : X.N.Nodup) (hi : X.N[i]? = some n) (hl : X.env.kindOf n = some .local)
      (hsu : ∀ (a : Addr) (oe : Obj) (cls : Value) (d : Option Addr) (pn : List (Addr × Obj)), Zc cls d oe → (∃ z, oe.data = .fields z) → PSs (X.suite a ((a, oe) :: pn)) (s0 :: su) (ts a cls d)) (r : HdA X hs l) : HdA X (.ExceptHandler (some (.Name x p1)) (some n) (s0 :: su) p2 :: hs) (⟨c, some i, ts⟩ :: l)
section
variable {X : Cx} {body : List Stmt} {h1 : ExceptHandler} {hs : List ExceptHandler} {l : List HdT} {pos : Pos} {tb : WX → TS} {Wo : WX}
theorem ps_tryA (es : X.stack = X.env :: X.outer) (ef : X.env.frame = some X.env.locals) (tk : Takes X Wo)
    (hb : ∀ (W : WX) (pn : List (Addr × Obj)) (xe : Value → Shared → Prop), Takes (X.tr pn xe) W → PassesOwn (model X.prog X.w) X.A X.env xe → PSs (X.tr pn xe) body (tb W))
    (hh : HdA X (h1 :: hs) l) : PS X (.Try body (h1 :: hs) [] [] pos) (fun D σ G => tb (wAll X.K Wo D l) D σ G) := by
  refine ⟨fun pins s0 σ0 G0 D I0 goal => ?_⟩
  have okX := I0.ok
  have frX : X.A.frames = some (X.env :: X.outer) := es ▸ okX.frames
  refine wpAny_Try_except ?_
  have run := hb (wAll X.K Wo D l) (X.pn ++ pins) (fun e z1 => wpAny (model X.prog X.w) X.A (noteFrame e X.env) (fun _ z2 => wpAny (model X.prog X.w) X.A (setFlight e none) (fun _ z3 => wpAny (model X.prog X.w) X.A (handleBy e X.env (h1 :: hs)) (SP X pins D) X.xe z3) X.xe z2) X.xe z1) (fun u zs fly => ?_) PassesOwn.looking
  · refine wpAny_mono (run.run [] s0 σ0 G0 D (I0.toTry _) goal) (fun fl zs res => ?_) (fun e zs z => z)
    cases fl with
    | next =>
      obtain ⟨τ, G, J, fin⟩ := res
      exact wpAny_execs_nil ⟨τ, G, J.ofTry okX, fin⟩
    | brk =>
      obtain ⟨τ, G, J, fin⟩ := res
      exact ⟨τ, G, J.ofTry okX, fin⟩
    | cont =>
      obtain ⟨τ, G, J, fin⟩ := res
      exact ⟨τ, G, J.ofTry okX, fin⟩
    | ret u =>
      obtain ⟨v, τ, G, J, rv, fin⟩ := res
      exact ⟨v, τ, G, J.ofTry okX, rv, fin⟩
  · obtain ⟨a, B, sI, pz, τ, G, cls, d, rfl, JT, nb, up, sky, na, os, ag, wish⟩ := fly
    have J : Inv X pins τ G sI := JT.ofTry okX
    rw [es] at sky
    show wpAny (model X.prog X.w) X.A (noteFrame (.ref a) X.env) _ _ _
    refine Sky.land Zc.steady frX ef sky fun g3 fl3 up3 => ?_
    have J3 : Inv X pins τ G { zs with heap := g3 } := J.landed nb fl3.1 (up.trans up3) os ag
    obtain ⟨o3, fs3, eo3, zo3, ed3⟩ := fl3.there
    have apart : a ∉ frs (X.env :: X.outer) := fun mem => by
      obtain ⟨_, o', e', no⟩ := fl3.2.2.1.mem mem
      rw [eo3] at e'
      cases e'
      exact no _ ed3
    have aL : a ≠ X.env.locals := fun z => apart (List.mem_filterMap.mpr ⟨X.env, List.mem_cons_self, by rw [ef, z]⟩)
    have aF : a ∉ X.fs := fun mem => by
      obtain ⟨ev, me, q⟩ := List.mem_filterMap.mp mem
      exact apart (List.mem_filterMap.mpr ⟨ev, List.mem_cons_of_mem _ me, q⟩)
    have S3 := J3.suite eo3 ed3 na aL aF
    have LT : PySem.W.Looks (model X.prog X.w) g3 (typeOf (.ref a)) cls := fun A Q E z k q => wpAny_typeOf_ref (k _ _ eo3) (by rw [zo3.1]; exact q)
    have test : ∀ {x : Str} {c : Value} {p1 : Pos}, Names X x c → ∀ {Q : Value → Shared → Prop} {E : Value → Shared → Prop}, Q c { zs with heap := g3 } → wpAny (model X.prog X.w) (X.A.mark (some (.ref a))) (eval (.Name x p1) X.env) Q E { zs with heap := g3 } := fun {x c p1} hc {Q E} q => by
      obtain ⟨gl, db, hm | ⟨hm, bv, nn⟩⟩ := hc
      · exact ld_glob (X := X.suite a ((a, o3) :: (X.pn ++ pins))) S3 gl hm q db
      · exact ld_blt (X := X.suite a ((a, o3) :: (X.pn ++ pins))) S3 gl hm bv q nn db
    have all : ∀ {ks : List ExceptHandler} {m : List HdT}, HdA X ks m → wAll X.K Wo D m cls d τ G → wpAny (model X.prog X.w) X.A (handleBy (.ref a) X.env ks) (SP X pins D) X.xe { zs with heap := g3 } := by
      intro ks m hk
      induction hk with
      | nil =>
        intro wish
        refine wpAny_handleBy_nil ?_
        obtain ⟨_, _, _, o5, fs5, T5, _, _, e5, _, d5, f5, _⟩ := id fl3
        unfold PySem.passOn
        refine wpAny_bind (wpAny_field e5 d5 f5 ?_)
        rw [if_neg (show ¬ ((Value.ref T5 == Value.none) = true) from by simp)]
        have fin : wpAny (model X.prog X.w) X.A (setFlight (.ref a) X.env.frame) (fun _ z4 => wpAny (model X.prog X.w) X.A (throw (.ref a) : Sem Flow) (SP X pins D) X.xe z4) X.xe { zs with heap := g3 } := by
          rw [ef]
          refine HandSPX.setFlight_upZ fl3 fun g4 fl4 up4 => wpAny_throw (tk _ _ ?_)
          exact ⟨a, B, sI, pins, τ, G, cls, d, rfl, J, nb, (up.trans up3).trans up4, .inr (.inr (by rw [es]; exact fl4)), na, os, ag, wish⟩
        first
          | exact wpAny_bind (wpAny_pure (wpAny_bind fin))
          | exact wpAny_bind fin
      | @bare x c ts st0 su p1 p2 ks2 m2 hc hsu r ih =>
        intro wish
        obtain ⟨b, eb, yes, no⟩ := wish
        refine wpAny_handleBy_cons (codeAny_handlers_test ?_) (by intro z; cases z)
        refine test hc ((PySem.W.exm_one (M := model X.prog X.w) (J3.kIn) LT eb).here ?_)
        cases b with
        | true =>
          refine codeAny_handlers_suite ?_
          refine HandSPX.lands_againZ fl3 fun g4 fl4 up4 => ?_
          have J4 : Inv X pins τ G { zs with heap := g4 } := J.landed nb fl4.1 ((up.trans up3).trans up4) os ag
          obtain ⟨o4, fs4, eo4, zo4, ed4⟩ := fl4.there
          have S4 := J4.suite eo4 ed4 na aL aF
          refine wpAny_mono ((hsu a o4 cls d (X.pn ++ pins) zo4 ⟨_, ed4⟩).run [] _ _ G _ S4 (yes rfl a na)) (fun fl z6 res => ?_) (fun _ _ z => z.elim)
          cases fl with
          | next =>
            obtain ⟨τ6, G6, S6, fin⟩ := res
            exact ⟨_, _, S6.unsuite okX, fin⟩
          | brk =>
            obtain ⟨τ6, G6, S6, fin⟩ := res
            exact ⟨_, _, S6.unsuite okX, fin⟩
          | cont =>
            obtain ⟨τ6, G6, S6, fin⟩ := res
            exact ⟨_, _, S6.unsuite okX, fin⟩
          | ret u =>
            obtain ⟨v6, τ6, G6, S6, rv, fin⟩ := res
            exact ⟨_, _, _, S6.unsuite okX, rv, fin⟩
        | false => exact ih (no rfl)
      | @named x n i c ts st0 su p1 p2 ks2 m2 hc hN hi hl hsu r ih =>
        intro wish
        obtain ⟨b, eb, yes, no⟩ := wish
        refine wpAny_handleBy_cons (codeAny_handlers_test ?_) (by intro z; cases z)
        refine test hc ((PySem.W.exm_one (M := model X.prog X.w) (J3.kIn) LT eb).here ?_)
        cases b with
        | true =>
          refine codeAny_handlers_suite_as ?_
          refine HandSPX.lands_againZ fl3 fun g4 fl4 up4 => ?_
          have J4 : Inv X pins τ G { zs with heap := g4 } := J.landed nb fl4.1 ((up.trans up3).trans up4) os ag
          obtain ⟨o4, fs4, eo4, zo4, ed4⟩ := fl4.there
          have S4 := J4.suite eo4 ed4 na aL aF
          refine store_ok (X := X.suite a ((a, o4) :: (X.pn ++ pins))) (v := .ref a) S4 hN hi (show Loc X.env.scope n from .inl hl) rfl (fun z5 S5 => ?_) (.inr hl)
          refine wpAny_mono ((hsu a o4 cls d (X.pn ++ pins) zo4 ⟨_, ed4⟩).run [] z5 _ G _ S5 (yes rfl a na)) (fun fl z6 res => ?_) (fun _ _ z => z.elim)
          have over : ∀ {τ6 : L2.St} {G6 : Hp} {Q : Shared → Prop}, Inv (X.suite a ((a, o4) :: (X.pn ++ pins))) [] τ6 G6 z6 → (∀ z7, Inv X pins (τ6.set i none) G6 z7 → Q z7) →
              wpAny (model X.prog X.w) X.A (do bindName X.env n .none; unbindBehindTheSuite X.env n p2) (fun _ z7 => Q z7) X.xe z6 := fun {τ6 G6 Q} S6 hq => gone_ok (S6.unsuite okX) hN hi hl hq
          cases fl with
          | next =>
            obtain ⟨τ6, G6, S6, fin⟩ := res
            exact over S6 fun z7 J7 => ⟨_, _, J7, fin⟩
          | brk =>
            obtain ⟨τ6, G6, S6, fin⟩ := res
            exact over S6 fun z7 J7 => ⟨_, _, J7, fin⟩
          | cont =>
            obtain ⟨τ6, G6, S6, fin⟩ := res
            exact over S6 fun z7 J7 => ⟨_, _, J7, fin⟩
          | ret u =>
            obtain ⟨v6, τ6, G6, S6, rv, fin⟩ := res
            exact over S6 fun z7 J7 => ⟨_, _, _, J7, rv, fin⟩
        | false => exact ih (no rfl)
    exact all hh wish
end
end Py

set_option Elab.async false
set_option linter.all false
set_option maxRecDepth 100000
set_option maxHeartbeats 2000000
namespace Py
open PySem L2
abbrev HdM : Type := (Nat → Option Bool) × Option Nat × (D → Env → Out)
/-- behind a suite without a name: nothing may be raised there -/
def behindB : Out → Out
  | .exc _ _ => .stuck
  | r => r
def tryH : List HdM → Nat → List Str → List D → Env → Out
  | [], c, ns, l, ρ => .exc (.ins c ns l) ρ
  | (isa, io, mh) :: r, c, ns, l, ρ => match isa c with
    | some true => (match io with
      | some i => if i < ρ.length then behind i (mh (.ins c ns l) (ρ.set i none)) else .stuck
      | none => behindB (mh (.ins c ns l) ρ))
    | some false => tryH r c ns l ρ
    | none => .stuck
def sTryA (hs : List HdM) (mb : Env → Out) : Env → Out := fun ρ => match mb ρ with
  | .exc e ρ1 => (match e with
    | .ins c ns l => tryH hs c ns l ρ1
    | _ => .stuck)
  | r => r
section
variable {Γ : Gm} {fr : Frm} {σ : L2.St} {ρ : Env} {G G' : Hp} {S S' : Addr → Prop}
inductive HdV (Γ : Gm) (fr : Frm) : List HdT → List HdM → Prop
  | nil : HdV Γ fr [] []
  | bare {C : Value} {ts : Addr → Value → Option Addr → TS} {isa : Nat → Option Bool} {mh : Env → Out} {l : List HdT} {m : List HdM} (hs : ∀ a cls dx, SV Γ (frW fr fun _ _ _ _ => False) (ts a cls dx) mh) (hx : ∀ c b, isa c = some b → PySem.W.exmOne Γ.K (.ref (Γ.cl c)) C = some b) (r : HdV Γ fr l m) :
      HdV Γ fr (⟨C, none, ts⟩ :: l) ((isa, none, fun _ => mh) :: m)
  | named {C : Value} {i : Nat} {ts : Addr → Value → Option Addr → TS} {isa : Nat → Option Bool} {mh : D → Env → Out} {l : List HdT} {m : List HdM} (hs : ∀ q : XS, q.i = i → SV Γ (frS fr q) (ts q.a q.cls q.dx) (mh q.e)) (hx : ∀ c b, isa c = some b → PySem.W.exmOne Γ.K (.ref (Γ.cl c)) C = some b)
      (hi : fr.notOwn i = true) (hz : fr.hd = false ∨ i ≠ 0) (r : HdV Γ fr l m) : HdV Γ fr (⟨C, some i, ts⟩ :: l) ((isa, some i, mh) :: m)
theorem Co.enter {i : Nat} {a : Addr} {cls : Value} {dx : Option Addr} {e : D} (c : Co Γ fr σ ρ G S) (hi : i ∉ fr.ow) (hz : fr.hd = false ∨ i ≠ 0) (hl : i < ρ.length) (hX : IsX Γ (hide S G) cls dx e) : Co Γ (frS fr ⟨i, a, cls, dx, e⟩) (σ.set i (some (.ref a))) (ρ.set i none) G S where
  len := by rw [List.length_set, List.length_set]; exact c.len
  dom := c.dom
  sub := c.sub
  keep := c.keep
  hs0 := c.hs0
  xsl := fun q h => by
    cases h
    exact ⟨List.getElem?_set_self (by rw [c.len]; exact hl), hX⟩
  pin := fun e => by
    rcases hz with hz | hz
    · have e' : fr.hd = true := e
      rw [hz] at e'; cases e'
    · rw [List.getElem?_set_ne hz]; exact c.pin e
  sh := fun j d' h1 h2 => by
    rcases set_get h2 with ⟨_, _, e⟩ | ⟨hne, e⟩
    · cases e
    · rw [List.getElem?_set_ne (Ne.symm hne)]
      exact c.sh j d' h1 e
  own := fun j d' h1 h2 => by
    rcases set_get h2 with ⟨_, _, e⟩ | ⟨hne, e⟩
    · cases e
    · rw [List.getElem?_set_ne (Ne.symm hne)]
      exact c.own j d' h1 e
  inj := fun j k d' e p h1 h2 h3 h4 h5 h6 h7 => by
    rcases set_get h4 with ⟨_, _, z⟩ | ⟨n1, e1⟩
    · cases z
    · rcases set_get h5 with ⟨_, _, z⟩ | ⟨n2, e2⟩
      · cases z
      · rw [List.getElem?_set_ne (Ne.symm n1)] at h6
        rw [List.getElem?_set_ne (Ne.symm n2)] at h7
        exact c.inj j k d' e p h1 h2 h3 e1 e2 h6 h7
theorem wAll_of {Wo : WX} {E : Ends} (hW : fr.W = Wo) (hxs : fr.xs = none) : ∀ {hs : List HdT} {ms : List HdM}, HdV Γ fr hs ms → ∀ {c : Nat} {ns : List Str} {l : List D} {dx : Option Addr}, Co Γ fr σ ρ G S → IsX Γ (hide S G) (.ref (Γ.cl c)) dx (.ins c ns l) →
    PostS Γ fr G S E (tryH ms c ns l ρ) → wAll Γ.K Wo E hs (.ref (Γ.cl c)) dx σ G := by
  intro hs ms hv
  induction hv with
  | nil =>
    intro c ns l dx co hX p
    have p2 : ∀ cls dx σ' G' S', Same (hide S G) (hide S' G') → Co Γ fr σ' ρ G' S' → IsX Γ (hide S' G') cls dx (.ins c ns l) → fr.W cls dx σ' G' := p
    rw [← hW]
    exact p2 _ dx σ G S (Same.refl _) co hX
  | @bare C ts isa mh l0 m hs hx r ih =>
    intro c ns l dx co hX p
    cases hisa : isa c with
    | none => unfold tryH at p; rw [hisa] at p; exact p.elim
    | some b =>
      refine ⟨b, hx c b hisa, fun hb a ha => ?_, fun hb => ?_⟩
      · subst hb
        have p2 : PostS Γ fr G S E (behindB (mh ρ)) := by unfold tryH at p; rw [hisa] at p; exact p
        refine hs a _ dx σ ρ G S co.toW E ?_
        generalize mh ρ = o at p2 ⊢
        cases o with
        | nx ρ2 => exact fun σ' G' S' e c' => p2 σ' G' S' e c'.ofW
        | ret d ρ2 => exact fun v σ' G' S' e c' => p2 v σ' G' S' e c'.ofW
        | brk ρ2 => exact fun σ' G' S' e c' => p2 σ' G' S' e c'.ofW
        | ct ρ2 => exact fun σ' G' S' e c' => p2 σ' G' S' e c'.ofW
        | exc _ _ => exact p2.elim
        | stuck => exact p2.elim
      · subst hb
        exact ih co hX (by unfold tryH at p; rw [hisa] at p; exact p)
  | @named C i ts isa mh l0 m hs hx hi hz r ih =>
    intro c ns l dx co hX p
    cases hisa : isa c with
    | none => unfold tryH at p; rw [hisa] at p; exact p.elim
    | some b =>
      refine ⟨b, hx c b hisa, fun hb a ha => ?_, fun hb => ?_⟩
      · subst hb
        have p2 : PostS Γ fr G S E (if i < ρ.length then behind i (mh (.ins c ns l) (ρ.set i none)) else .stuck) := by unfold tryH at p; rw [hisa] at p; exact p
        by_cases hl : i < ρ.length
        · rw [if_pos hl] at p2
          refine hs ⟨i, a, .ref (Γ.cl c), dx, .ins c ns l⟩ rfl _ _ G S (co.enter (nown hi) hz hl hX) _ ?_
          show PostS Γ _ G S _ (mh (.ins c ns l) (ρ.set i none))
          generalize mh (.ins c ns l) (ρ.set i none) = o at p2 ⊢
          cases o with
          | nx ρ2 => exact fun σ' G' S' e c' => p2 _ G' S' e (c'.gone hxs (nown hi) hz)
          | ret d ρ2 => exact fun v σ' G' S' e c' => p2 v _ G' S' e (c'.gone hxs (nown hi) hz)
          | brk ρ2 => exact fun σ' G' S' e c' => p2 _ G' S' e (c'.gone hxs (nown hi) hz)
          | ct ρ2 => exact fun σ' G' S' e c' => p2 _ G' S' e (c'.gone hxs (nown hi) hz)
          | exc _ _ => exact p2.elim
          | stuck => exact p2.elim
        · rw [if_neg hl] at p2
          exact p2.elim
      · subst hb
        exact ih co hX (by unfold tryH at p; rw [hisa] at p; exact p)
theorem sv_tryA {tb : WX → TS} {mb : Env → Out} {Wo : WX} {hs : List HdT} {ms : List HdM} (hW : fr.W = Wo) (hb : ∀ W, SV Γ (frW fr W) (tb W) mb) (hv : HdV Γ fr hs ms) (hxs : fr.xs = none := by rfl) : SV Γ fr (fun E σ H => tb (wAll Γ.K Wo E hs) E σ H) (sTryA ms mb) := fun σ ρ G S c E p => by
  refine hb _ σ ρ G S c.toW E ?_
  unfold sTryA at p
  generalize mb ρ = r at p ⊢
  cases r with
  | nx ρ1 => exact fun σ' G' S' e c' => p σ' G' S' e c'.ofW
  | ret d ρ1 => exact fun v σ' G' S' e c' => p v σ' G' S' e c'.ofW
  | brk ρ1 => exact fun σ' G' S' e c' => p σ' G' S' e c'.ofW
  | ct ρ1 => exact fun σ' G' S' e c' => p σ' G' S' e c'.ofW
  | stuck => exact p
  | exc e ρ1 =>
    intro cls dx σ1 G1 S1 e1 c1 hX
    cases e with
    | ins k ns l =>
      have ecls : cls = .ref (Γ.cl k) := by
        obtain ⟨k', ns', l', h1, h2, _⟩ := hX
        cases h1
        exact h2
      subst ecls
      exact wAll_of hW hxs hv c1.ofW hX (PostS.mono e1 p)
    | _ => exact p.elim
end
end Py

set_option Elab.async false
set_option linter.all false
set_option maxRecDepth 100000
set_option maxHeartbeats 2000000
namespace Py
open PySem L2 He
/-! ## 19. Errors of classes without an __init__ of their own -/
/-- such a class -/
def ExcP (K : PySem.W.Frag) (mg : Str → Option Value) (x : Str) (C : Addr) : Prop := PySem.W.excIn K C veBase "ValueError.__new__" = true ∧ mg x = some (.ref C) ∧ PySem.W.keepIn K (.ref C) = true ∧ PySem.W.subIn K (.ref C) (.type "BaseException") = some true ∧ PySem.W.typeIn K (.ref C) = some (.type "type")
def fPla (x : Str) : Fb := fun K => PySem.W.excIn K (ga K x) veBase "ValueError.__new__" && (PySem.W.keepIn K (.ref (ga K x)) && (decide (PySem.W.subIn K (.ref (ga K x)) (.type "BaseException") = some true) && decide (PySem.W.typeIn K (.ref (ga K x)) = some (.type "type"))))
theorem pla_at {K : PySem.W.Frag} {mg : Str → Option Value} {x : Str} (hm : mg x = some (.ref (ga K x))) (c : fPla x K = true) : ExcP K mg x (ga K x) := by
  obtain ⟨h1, c⟩ := ba c
  obtain ⟨h2, c⟩ := ba c
  obtain ⟨h3, h4⟩ := ba c
  exact ⟨h1, hm, h2, of_decide_eq_true h3, of_decide_eq_true h4⟩
theorem pmk_pla {X : Cx} {x : Str} {C : Addr} {p pos : Pos} (F : ExcP X.K X.mg x C) (hg : Gl X x) (hdb : (x == ("__debug__" : Str)) = false := by decide) : PMk X (.Call (.Name x p) [] [] pos) (fun _ H Q => Q (.ref C) none H) := by
  obtain ⟨q, hm, kC, sC, tC⟩ := F
  intro pins s σ H Q I h
  refine wpAny_Call_Name_kw (ld_glob I hg hm ?_ hdb)
  refine PySem.W.callWith_K0 I.kIn kC ?_
  obtain ⟨bm, N, nm, qn, bs, hdct, sn, sub, ab, col, dd, k0, k1, k2, k3, k5, mN, hC, hN, hni, T⟩ := exc_obj I.kIn q
  refine wpAny_call_exc_subT PySem.F.excBase_ValueError T hC hN hni (fun h' e made => ?_) (by show 0 ≤ sizeLine; omega)
  exact mk_of I made (raises_own sC tC) h (I.hok.gone made.new)
theorem ps_raiseP {X : Cx} {W : WX} {x : Str} {C : Addr} {p pos pos2 : Pos} (hc : X.calm = true) (F : ExcP X.K X.mg x C) (tk : Takes X W) (hg : Gl X x := by rfl) (hdb : (x == ("__debug__" : Str)) = false := by decide) : PS X (.Raise (some (.Call (.Name x p) [] [] pos)) none pos2) (fun _ σ H => W (.ref C) none σ H) :=
  ps_raise hc tk (pmk_pla F hg hdb)
def sRaise0 (c : Nat) : Env → Out := fun ρ => .exc (.ins c [] []) ρ
theorem sv_raise0 {Γ : Gm} {fr : Frm} {c : Nat} {W : WX} (hW : fr.W = W) : SV Γ fr (fun _ σ H => W (.ref (Γ.cl c)) none σ H) (sRaise0 c) := fun σ ρ G S co E p => by
  rw [← hW]
  exact p (.ref (Γ.cl c)) none σ G S (Same.refl _) co ⟨c, [], [], rfl, rfl, .inl ⟨rfl, rfl, rfl⟩⟩
end Py

set_option Elab.async false
set_option linter.all false
set_option maxRecDepth 100000
set_option maxHeartbeats 2000000
namespace Py
open PySem L2
/-! ## 20. sum, all, any, max, min of a list -/
def intsD : List D → Option (List Int)
  | [] => some []
  | .int i :: r => (intsD r).map (i :: ·)
  | _ :: _ => none
def boolsD : List D → Option (List Bool)
  | [] => some []
  | .bl b :: r => (boolsD r).map (b :: ·)
  | _ :: _ => none
theorem intsD_eq : ∀ {l : List D} {ns : List Int}, intsD l = some ns → l = ns.map D.int
  | [], ns, h => by cases h; rfl
  | .int i :: r, ns, h => by
    have h : (intsD r).map (i :: ·) = some ns := h
    obtain ⟨m, hm, rfl⟩ := Option.map_eq_some_iff.mp h
    rw [intsD_eq hm]; rfl
  | .non :: _, _, h => by cases h
  | .bl _ :: _, _, h => by cases h
  | .str _ :: _, _, h => by cases h
  | .tup _ :: _, _, h => by cases h
  | .lst _ :: _, _, h => by cases h
  | .scr _ :: _, _, h => by cases h
  | .ins _ _ _ :: _, _, h => by cases h
theorem boolsD_eq : ∀ {l : List D} {bs : List Bool}, boolsD l = some bs → l = bs.map D.bl
  | [], ns, h => by cases h; rfl
  | .bl i :: r, ns, h => by
    have h : (boolsD r).map (i :: ·) = some ns := h
    obtain ⟨m, hm, rfl⟩ := Option.map_eq_some_iff.mp h
    rw [boolsD_eq hm]; rfl
  | .non :: _, _, h => by cases h
  | .int _ :: _, _, h => by cases h
  | .str _ :: _, _, h => by cases h
  | .tup _ :: _, _, h => by cases h
  | .lst _ :: _, _, h => by cases h
  | .scr _ :: _, _, h => by cases h
  | .ins _ _ _ :: _, _, h => by cases h
theorem IsDs.bools {Γ : Gm} {H : Hp} : ∀ {bs : List Bool} {vs : List V}, IsDs Γ H vs (bs.map D.bl) → vs = bs.map V.bl
  | [], _, h => by cases h; rfl
  | b :: bs, _, h => by
    cases h with
    | cons h1 h2 =>
      cases h1
      rw [IsDs.bools h2]; rfl
def dSum : List D → Option D
  | [.lst l] => (intsD l).map fun ns => .int ns.sum
  | _ => none
def dAll : List D → Option D
  | [.lst l] => (boolsD l).map fun bs => .bl (bs.all id)
  | _ => none
def dAny : List D → Option D
  | [.lst l] => (boolsD l).map fun bs => .bl (bs.any id)
  | _ => none
def maxL : List Int → Int
  | [] => 0
  | [n] => n
  | n :: m :: r => if n < maxL (m :: r) then maxL (m :: r) else n
def minL : List Int → Int
  | [] => 0
  | [n] => n
  | n :: m :: r => if minL (m :: r) < n then minL (m :: r) else n
def dMaxL : List D → Option D
  | [.lst l] => if l.isEmpty then none else (intsD l).map fun ns => .int (maxL ns)
  | _ => none
def dMinL : List D → Option D
  | [.lst l] => if l.isEmpty then none else (intsD l).map fun ns => .int (minL ns)
  | _ => none
theorem maxL_ge : ∀ {ns : List Int} {y : Int}, y ∈ ns → y ≤ maxL ns
  | [n], y, h => by rw [List.mem_singleton.mp h]; exact Int.le_refl _
  | n :: m :: r, y, h => by
    unfold maxL
    rcases List.mem_cons.mp h with rfl | h
    · split <;> omega
    · have := maxL_ge h
      split <;> omega
theorem minL_le : ∀ {ns : List Int} {y : Int}, y ∈ ns → minL ns ≤ y
  | [n], y, h => by rw [List.mem_singleton.mp h]; exact Int.le_refl _
  | n :: m :: r, y, h => by
    unfold minL
    rcases List.mem_cons.mp h with rfl | h
    · split <;> omega
    · have := minL_le h
      split <;> omega
theorem maxL_mem : ∀ {ns : List Int}, ns ≠ [] → maxL ns ∈ ns
  | [], h => absurd rfl h
  | [n], _ => List.mem_singleton.mpr rfl
  | n :: m :: r, _ => by
    unfold maxL
    have := maxL_mem (ns := m :: r) (by simp)
    split
    · exact List.mem_cons_of_mem _ this
    · exact List.mem_cons_self
theorem minL_mem : ∀ {ns : List Int}, ns ≠ [] → minL ns ∈ ns
  | [], h => absurd rfl h
  | [n], _ => List.mem_singleton.mpr rfl
  | n :: m :: r, _ => by
    unfold minL
    have := minL_mem (ns := m :: r) (by simp)
    split
    · exact List.mem_cons_of_mem _ this
    · exact List.mem_cons_self
section
variable {Γ : Gm}
theorem lst1 {H : Hp} {xs : List V} {l : List D} (h : IsDs Γ H xs [.lst l]) {G : Hp} (le : Same H G) : ∃ p ys, xs = [.ref p] ∧ SqL Γ.K G p ys ∧ IsDs Γ H ys l := by
  cases h with
  | cons r t =>
    cases t
    cases r with
    | lst h1 h2 => exact ⟨_, _, rfl, SqL.of (le _ _ h1), h2⟩
theorem one_lst {f : List D → Option D} {xs : List D} {d : D} (k : ∀ ds e, (∀ l, ds ≠ [.lst l]) → f ds = some e → False) (h : f xs = some d) : ∃ l, xs = [.lst l] := by
  by_cases h2 : ∃ l, xs = [.lst l]
  · exact h2
  · exact (k xs d (fun l z => h2 ⟨l, z⟩) h).elim
theorem cad_sum : CaD Γ (rSum Γ.K) dSum := fun G S xs ds dz dom hx e Q q => by
  obtain ⟨l, rfl⟩ := one_lst (f := dSum) (fun ds e k z => by unfold dSum at z; split at z <;> first | exact k _ rfl | cases z) e
  obtain ⟨ns, hn, rfl⟩ := Option.map_eq_some_iff.mp (show (intsD l).map (fun ns => D.int ns.sum) = some dz from e)
  obtain ⟨p, ys, rfl, hs, hd⟩ := lst1 hx hide_le
  rw [intsD_eq hn] at hd
  rw [hd.ints] at hs
  exact ⟨p, ns, rfl, hs, q _ G (Same.refl _) (.int _)⟩
theorem cad_all : CaD Γ (rAll Γ.K) dAll := fun G S xs ds dz dom hx e Q q => by
  obtain ⟨l, rfl⟩ := one_lst (f := dAll) (fun ds e k z => by unfold dAll at z; split at z <;> first | exact k _ rfl | cases z) e
  obtain ⟨bs, hn, rfl⟩ := Option.map_eq_some_iff.mp (show (boolsD l).map (fun bs => D.bl (bs.all id)) = some dz from e)
  obtain ⟨p, ys, rfl, hs, hd⟩ := lst1 hx hide_le
  rw [boolsD_eq hn] at hd
  rw [hd.bools] at hs
  exact ⟨p, bs, rfl, hs, q _ G (Same.refl _) (.bl _)⟩
theorem cad_any : CaD Γ (rAny Γ.K) dAny := fun G S xs ds dz dom hx e Q q => by
  obtain ⟨l, rfl⟩ := one_lst (f := dAny) (fun ds e k z => by unfold dAny at z; split at z <;> first | exact k _ rfl | cases z) e
  obtain ⟨bs, hn, rfl⟩ := Option.map_eq_some_iff.mp (show (boolsD l).map (fun bs => D.bl (bs.any id)) = some dz from e)
  obtain ⟨p, ys, rfl, hs, hd⟩ := lst1 hx hide_le
  rw [boolsD_eq hn] at hd
  rw [hd.bools] at hs
  exact ⟨p, bs, rfl, hs, q _ G (Same.refl _) (.bl _)⟩
theorem cad_maxL : CaD Γ (rMax Γ.K) dMaxL := fun G S xs ds dz dom hx e Q q => by
  obtain ⟨l, rfl⟩ := one_lst (f := dMaxL) (fun ds e k z => by unfold dMaxL at z; split at z <;> first | exact k _ rfl | cases z) e
  have e2 : (if l.isEmpty then none else (intsD l).map fun ns => D.int (maxL ns)) = some dz := e
  by_cases he : l.isEmpty = true
  · rw [if_pos he] at e2; cases e2
  · rw [if_neg he] at e2
    obtain ⟨ns, hn, rfl⟩ := Option.map_eq_some_iff.mp e2
    obtain ⟨p, ys, rfl, hs, hd⟩ := lst1 hx hide_le
    have el := intsD_eq hn
    rw [el] at hd
    rw [hd.ints] at hs
    have hne : ns ≠ [] := fun z => he (by rw [el, z]; rfl)
    refine ⟨p, ns, rfl, hs, List.length_pos_iff.mpr hne, fun m hm hy => ?_⟩
    have em : m = maxL ns := Int.le_antisymm (maxL_ge hm) (hy _ (maxL_mem hne))
    rw [em]
    exact q _ G (Same.refl _) (.int _)
theorem cad_minL : CaD Γ (rMin Γ.K) dMinL := fun G S xs ds dz dom hx e Q q => by
  obtain ⟨l, rfl⟩ := one_lst (f := dMinL) (fun ds e k z => by unfold dMinL at z; split at z <;> first | exact k _ rfl | cases z) e
  have e2 : (if l.isEmpty then none else (intsD l).map fun ns => D.int (minL ns)) = some dz := e
  by_cases he : l.isEmpty = true
  · rw [if_pos he] at e2; cases e2
  · rw [if_neg he] at e2
    obtain ⟨ns, hn, rfl⟩ := Option.map_eq_some_iff.mp e2
    obtain ⟨p, ys, rfl, hs, hd⟩ := lst1 hx hide_le
    have el := intsD_eq hn
    rw [el] at hd
    rw [hd.ints] at hs
    have hne : ns ≠ [] := fun z => he (by rw [el, z]; rfl)
    refine ⟨p, ns, rfl, hs, List.length_pos_iff.mpr hne, fun m hm hy => ?_⟩
    have em : m = minL ns := Int.le_antisymm (hy _ (minL_mem hne)) (minL_le hm)
    rw [em]
    exact q _ G (Same.refl _) (.int _)
end
theorem bt_sum : bootBuiltins "sum" = some (.builtin "sum") := by decide +kernel
theorem bt_all : bootBuiltins "all" = some (.builtin "all") := by decide +kernel
theorem bt_any : bootBuiltins "any" = some (.builtin "any") := by decide +kernel
theorem bt_max : bootBuiltins "max" = some (.builtin "max") := by decide +kernel
theorem bt_min : bootBuiltins "min" = some (.builtin "min") := by decide +kernel
theorem bt_sorted : bootBuiltins "sorted" = some (.builtin "sorted") := by decide +kernel
end Py

set_option Elab.async false
set_option linter.all false
set_option maxRecDepth 100000
set_option maxHeartbeats 2000000
namespace Py
open PySem L2 RZ
/-! ## 21. enumerate, zip -/
def enumD (l : List D) : List D := l.zipIdx.map fun p => .tup [.int p.2, p.1]
def zipD (l m : List D) : List D := List.zipWith (fun a b => D.tup [a, b]) l m
def enumM (m : Env → Rs (List D)) : Env → Rs (List D) := fun ρ => (m ρ).bind fun ds ρ1 => match ds with
  | [.lst l] => .ok (enumD l) ρ1
  | [.scr l] => .ok (enumD (l.map D.int)) ρ1
  | _ => .stuck
def zipM (m : Env → Rs (List D)) : Env → Rs (List D) := fun ρ => (m ρ).bind fun ds ρ1 => match ds with
  | [.lst l, .lst k] => .ok (zipD l k) ρ1
  | [.tup l, .tup k] => .ok (zipD l k) ρ1
  | _ => .stuck
section
variable {Γ : Gm} {fr : Frm} {ta : TA} {ma : Env → Rs (List D)}
theorem SqL.det {K : PySem.W.Frag} {H : Hp} {a : Addr} {xs : List V} {i : Nat} {x : V} (f : ∀ ys, SqL K H a ys → ys[i]? = some x) (h : SqL K H a xs) : xs[i]? = some x := f xs h
theorem new_tup {G : Hp} {S : Addr → Prop} {T : Addr} {x y : V} {dx dy : D} (dom : ∀ a, S a → ∃ o, G a = some o) (hT : G T = none) (h1 : IsD Γ (hide S G) x dx) (h2 : IsD Γ (hide S G) y dy) : Same G (upd G T (.tup [x, y])) ∧ IsD Γ (hide S (upd G T (.tup [x, y]))) (.ref T) (.tup [dx, dy]) := by
  have e : Same G (upd G T (.tup [x, y])) := same_upd hT
  have n : ¬ S T := fun z => by
    obtain ⟨o, q⟩ := dom T z
    rw [hT] at q; cases q
  exact ⟨e, .tup (SqT.of (hide_of n upd_same)) (.cons (h1.le (hide_ext e)) (.cons (h2.le (hide_ext e)) .nil))⟩
theorem jw_enum {a : Addr} {xs : List V} {ds : List D} {H0 : Hp} (h : SqL Γ.K H0 a xs) (r : IsDs Γ H0 xs ds) : JW Γ (Ite Γ.K a) (enumD ds) H0 := fun i G S e dom => by
  have hq : SqL Γ.K G a xs := (e.trans hide_le).seq h
  refine ⟨fun hl => ⟨xs, hq, by rw [r.length]; unfold enumD at hl; simpa using hl⟩, fun d hd => ?_⟩
  unfold enumD at hd
  rw [List.getElem?_map] at hd
  obtain ⟨p, hp, rfl⟩ := Option.map_eq_some_iff.mp hd
  rw [List.getElem?_zipIdx] at hp
  obtain ⟨d0, hd0, rfl⟩ := Option.map_eq_some_iff.mp hp
  obtain ⟨v, hv, hr⟩ := r.get hd0
  refine ⟨⟨xs, v, hq, hv⟩, fun x G' y => ?_⟩
  obtain ⟨T, x0, rfl, hT, rfl, f⟩ := y
  have hx := f xs hq
  rw [hv] at hx
  cases hx
  have := new_tup (dx := .int (i : Nat)) dom hT (.int _) (hr.le e)
  simpa using this
theorem iv_enum (h : EA Γ fr ta ma) : IV Γ fr (iEnum Γ.K ta) (enumM ma) := fun σ ρ G S c Q p => by
  refine h.step c p fun ds ρ1 xs G1 S1 _ c1 hx p1 => ?_
  cases hx with
  | nil => exact p1.elim
  | cons r1 t1 =>
    cases t1 with
    | cons _ _ => cases r1 <;> exact p1.elim
    | nil =>
      cases r1 with
      | lst h1 h2 => exact ⟨_, _, rfl, SqL.of (hide_le _ _ h1), PostG.give (d := _) p1 (Same.refl _) c1 (jw_enum (SqL.of h1) h2)⟩
      | scr h1 => exact ⟨_, _, rfl, hide_le.seq h1, PostG.give (d := _) p1 (Same.refl _) c1 (jw_enum h1 (isDs_ints _))⟩
      | _ => exact p1.elim
theorem zip_get {l m : List D} {i : Nat} {d : D} (h : (zipD l m)[i]? = some d) : ∃ a b, l[i]? = some a ∧ m[i]? = some b ∧ d = .tup [a, b] := by
  unfold zipD at h
  rw [List.getElem?_zipWith] at h
  cases h1 : l[i]? with
  | none => rw [h1] at h; simp at h
  | some a =>
    cases h2 : m[i]? with
    | none => rw [h1, h2] at h; simp at h
    | some b =>
      rw [h1, h2] at h
      simp at h
      exact ⟨a, b, rfl, rfl, h.symm⟩
theorem jw_zip {a b : Addr} {xs ys : List V} {ds es : List D} {H0 : Hp} (h : SqL Γ.K H0 a xs) (h' : SqL Γ.K H0 b ys) (r : IsDs Γ H0 xs ds) (r' : IsDs Γ H0 ys es) : JW Γ (Itz Γ.K a b) (zipD ds es) H0 := fun i G S e dom => by
  have hq : SqL Γ.K G a xs := (e.trans hide_le).seq h
  have hq' : SqL Γ.K G b ys := (e.trans hide_le).seq h'
  refine ⟨fun hl => ⟨xs, ys, hq, hq', by rw [r.length, r'.length]; unfold zipD at hl; rw [List.length_zipWith] at hl; omega⟩, fun d hd => ?_⟩
  obtain ⟨da, db, h1, h2, rfl⟩ := zip_get hd
  obtain ⟨v, hv, hr⟩ := r.get h1
  obtain ⟨u, hu, hs⟩ := r'.get h2
  refine ⟨⟨xs, ys, v, u, hq, hq', hv, hu⟩, fun x G' y => ?_⟩
  obtain ⟨T, x0, y0, rfl, hT, rfl, f, f'⟩ := y
  have hx := f xs hq
  have hy := f' ys hq'
  rw [hv] at hx
  rw [hu] at hy
  cases hx
  cases hy
  exact new_tup dom hT (hr.le e) (hs.le e)
theorem jw_zipT {a b : Addr} {xs ys : List V} {ds es : List D} {H0 : Hp} (h : SqT Γ.K H0 a xs) (h' : SqT Γ.K H0 b ys) (r : IsDs Γ H0 xs ds) (r' : IsDs Γ H0 ys es) : JW Γ (ItzT Γ.K a b) (zipD ds es) H0 := fun i G S e dom => by
  have hq : SqT Γ.K G a xs := sqT_mono (e.trans hide_le) h
  have hq' : SqT Γ.K G b ys := sqT_mono (e.trans hide_le) h'
  refine ⟨fun hl => ⟨xs, ys, hq, hq', by rw [r.length, r'.length]; unfold zipD at hl; rw [List.length_zipWith] at hl; omega⟩, fun d hd => ?_⟩
  obtain ⟨da, db, h1, h2, rfl⟩ := zip_get hd
  obtain ⟨v, hv, hr⟩ := r.get h1
  obtain ⟨u, hu, hs⟩ := r'.get h2
  refine ⟨⟨xs, ys, v, u, hq, hq', hv, hu⟩, fun x G' y => ?_⟩
  obtain ⟨T, x0, y0, rfl, hT, rfl, f, f'⟩ := y
  have hx := f xs hq
  have hy := f' ys hq'
  rw [hv] at hx
  rw [hu] at hy
  cases hx
  cases hy
  exact new_tup dom hT (hr.le e) (hs.le e)
theorem iv_zip (h : EA Γ fr ta ma) : IV Γ fr (iZipA Γ.K ta) (zipM ma) := fun σ ρ G S c Q p => by
  refine h.step c p fun ds ρ1 xs G1 S1 _ c1 hx p1 => ?_
  cases hx with
  | nil => exact p1.elim
  | cons r1 t1 =>
    cases t1 with
    | nil => cases r1 <;> exact p1.elim
    | cons r2 t2 =>
      cases t2 with
      | cons _ _ => cases r1 <;> first | exact p1.elim | (cases r2 <;> exact p1.elim)
      | nil =>
        cases r1 with
        | lst h1 h2 =>
          cases r2 with
          | lst k1 k2 => exact ⟨_, _, _, _, rfl, .inl ⟨SqL.of (hide_le _ _ h1), SqL.of (hide_le _ _ k1), PostG.give (d := _) p1 (Same.refl _) c1 (jw_zip (SqL.of h1) (SqL.of k1) h2 k2)⟩⟩
          | _ => exact p1.elim
        | tup h1 h2 =>
          cases r2 with
          | tup k1 k2 => exact ⟨_, _, _, _, rfl, .inr ⟨sqT_mono hide_le h1, sqT_mono hide_le k1, PostG.give (d := _) p1 (Same.refl _) c1 (jw_zipT h1 k1 h2 k2)⟩⟩
          | _ => exact p1.elim
        | _ => exact p1.elim
end
end Py

set_option Elab.async false
set_option linter.all false
set_option maxRecDepth 100000
set_option maxHeartbeats 1000000
namespace Py
open PySem L2
/-! ## 20. The mirror by rewriting: one frame for each place that waits -/
section
variable {α β : Type}
def fBin2 (f : D → D → Option D) (a : D) : Rs D → Rs D
  | .ok b ρ => Rs.ofOpt (f a b) ρ
  | .exc e ρ => .exc e ρ
  | .stuck => .stuck
def fBin1 (f : D → D → Option D) (mb : Env → Rs D) : Rs D → Rs D
  | .ok a ρ => fBin2 f a (mb ρ)
  | .exc e ρ => .exc e ρ
  | .stuck => .stuck
def fUn (f : α → Option D) : Rs α → Rs D
  | .ok a ρ => Rs.ofOpt (f a) ρ
  | .exc e ρ => .exc e ρ
  | .stuck => .stuck
def fCons2 (a : D) : Rs (List D) → Rs (List D)
  | .ok b ρ => .ok (a :: b) ρ
  | .exc e ρ => .exc e ρ
  | .stuck => .stuck
def fCons1 (r : Env → Rs (List D)) : Rs D → Rs (List D)
  | .ok a ρ => fCons2 a (r ρ)
  | .exc e ρ => .exc e ρ
  | .stuck => .stuck
def fB : Rs D → Rs Bool
  | .ok (.bl b) ρ => .ok b ρ
  | .exc e ρ => .exc e ρ
  | _ => .stuck
def fT : Rs D → Rs Bool
  | .ok d ρ => Rs.ofOpt (truthD d) ρ
  | .exc e ρ => .exc e ρ
  | .stuck => .stuck
/-- a two-way choice by a Bool -/
def sel (x : Bool) (a b : Env → α) (ρ : Env) : α := match x with
  | true => a ρ
  | false => b ρ
def fIfR (a b : Env → Rs α) : Rs Bool → Rs α
  | .ok x ρ => sel x a b ρ
  | .exc e ρ => .exc e ρ
  | .stuck => .stuck
def rOk (x : α) : Env → Rs α := fun ρ => .ok x ρ
def fNotR : Rs Bool → Rs Bool
  | .ok x ρ => .ok (!x) ρ
  | .exc e ρ => .exc e ρ
  | .stuck => .stuck
def fEAnd (b : Env → Rs D) : Rs D → Rs D
  | .ok (.bl x) ρ => sel x b (rOk (.bl false)) ρ
  | .exc e ρ => .exc e ρ
  | _ => .stuck
def fEOr (b : Env → Rs D) : Rs D → Rs D
  | .ok (.bl x) ρ => sel x (rOk (.bl true)) b ρ
  | .exc e ρ => .exc e ρ
  | _ => .stuck
def fENot : Rs D → Rs D
  | .ok (.bl x) ρ => .ok (.bl !x) ρ
  | .exc e ρ => .exc e ρ
  | _ => .stuck
def selT (x : Bool) (r : Rs α) : Rs α := match x with
  | true => r
  | false => .stuck
def fCall (n : Nat) (m : List D → Rf D) (dd : List D) : Rs (List D) → Rs D
  | .ok ds ρ => selT (decide ((ds ++ dd).length = n)) ((m (ds ++ dd)).to ρ)
  | .exc e ρ => .exc e ρ
  | .stuck => .stuck
def toN : Rf D → Env → Rs D
  | .ok d, ρ => .ok d ρ
  | _, _ => .stuck
def fCallN (n : Nat) (m : List D → Rf D) (dd : List D) : Rs (List D) → Rs D
  | .ok ds ρ => selT (decide ((ds ++ dd).length = n)) (toN (m (ds ++ dd)) ρ)
  | .exc e ρ => .exc e ρ
  | .stuck => .stuck
def toH (i : Nat) : Rf (D × List D) → Env → Rs D
  | .ok (d, l'), ρ => .ok d (ρ.set i (some (.lst l')))
  | _, _ => .stuck
def fCallH2 (i : Nat) (m : List D → List D → Rf (D × List D)) (ds : List D) : Option (List D) → Env → Rs D
  | some l, ρ => toH i (m l ds) ρ
  | none, _ => .stuck
def fCallH1 (i n : Nat) (m : List D → List D → Rf (D × List D)) : Rs (List D) → Rs D
  | .ok ds ρ => selT (decide (ds.length + 1 = n)) (fCallH2 i m ds (ownL ρ i) ρ)
  | .exc e ρ => .exc e ρ
  | .stuck => .stuck
def ifOwn (o : Option (List D)) (r : Rs α) : Rs α := match o with
  | some _ => r
  | none => .stuck
def fIxO2 (k : D) (ρ : Env) : Option (List D) → Rs D
  | some l => Rs.ofOpt (dIx (.lst l) k) ρ
  | none => .stuck
def fIxO (i : Nat) : Rs D → Rs D
  | .ok k ρ => fIxO2 k ρ (ownL ρ i)
  | .exc e ρ => .exc e ρ
  | .stuck => .stuck
def fMove (i : Nat) (ρ : Env) : Option (List D) → Rs D
  | some l => .ok (.lst l) (ρ.set i none)
  | none => .stuck
def fOwnA (f : List D → Option D) (ρ : Env) : Option (List D) → Rs D
  | some l => Rs.ofOpt (f l) ρ
  | none => .stuck
def fOT (ρ : Env) : Option (List D) → Rs Bool
  | some l => .ok (!l.isEmpty) ρ
  | none => .stuck
def ownV : Option (Option D) → Option (List D)
  | some (some (.lst l)) => some l
  | _ => none
def varV (ρ : Env) : Option (Option D) → Rs D
  | some (some d) => .ok d ρ
  | _ => .stuck
/- statements -/
def fExpr : Rs D → Out
  | .ok _ ρ => .nx ρ
  | .exc e ρ => .exc e ρ
  | .stuck => .stuck
def fSet (i : Nat) : Rs D → Out
  | .ok d ρ => .nx (ρ.set i (some d))
  | .exc e ρ => .exc e ρ
  | .stuck => .stuck
def fRet : Rs D → Out
  | .ok d ρ => .ret d ρ
  | .exc e ρ => .exc e ρ
  | .stuck => .stuck
def fIfS (a b : Env → Out) : Rs Bool → Out
  | .ok x ρ => sel x a b ρ
  | .exc e ρ => .exc e ρ
  | .stuck => .stuck
def thenN (t : Env → Out) : Out → Out
  | .nx ρ => t ρ
  | _ => .stuck
def fAsg2 : Option Env → Out
  | some ρ => .nx ρ
  | none => .stuck
def fAsg (mg : D → Env → Option Env) : Rs D → Out
  | .ok d ρ => fAsg2 (mg d ρ)
  | .exc e ρ => .exc e ρ
  | .stuck => .stuck
def fPar (i j : Nat) : Rs (List D) → Out
  | .ok [x, y] ρ => .nx ((ρ.set i (some x)).set j (some y))
  | .exc e ρ => .exc e ρ
  | _ => .stuck
def fApp2 (i : Nat) (d : D) (ρ : Env) : Option (List D) → Out
  | some l => if l.length < 1000000 then .nx (ρ.set i (some (.lst (l ++ [d])))) else .stuck
  | none => .stuck
def fApp (i : Nat) : Rs D → Out
  | .ok d ρ => fApp2 i d ρ (ownL ρ i)
  | .exc e ρ => .exc e ρ
  | .stuck => .stuck
def ifOwnS (o : Option (List D)) (r : Out) : Out := match o with
  | some _ => r
  | none => .stuck
def fSI4 (i : Nat) (l : List D) (d : D) (ρ : Env) : Option Nat → Out
  | some j => .nx (ρ.set i (some (.lst (l.set j d))))
  | none => .stuck
def fSI3 (i : Nat) (d k : D) (ρ : Env) : Option (List D) → Out
  | some l => (match k with
    | .int n => fSI4 i l d ρ (ixN l.length n)
    | _ => .stuck)
  | none => .stuck
def fSI2 (i : Nat) (d : D) : Rs D → Out
  | .ok k ρ => fSI3 i d k ρ (ownL ρ i)
  | .exc e ρ => .exc e ρ
  | .stuck => .stuck
def fSI1 (i : Nat) (mk : Env → Rs D) : Rs D → Out
  | .ok d ρ => ifOwnS (ownL ρ i) (fSI2 i d (mk ρ))
  | .exc e ρ => .exc e ρ
  | .stuck => .stuck
def fFor (mg : D → Env → Option Env) (mb : Env → Out) : Rs (List D) → Out
  | .ok ds ρ => forL mg mb ds ρ
  | .exc e ρ => .exc e ρ
  | .stuck => .stuck
def fRng1 : Rs (List D) → Rs (List D)
  | .ok [.int j] ρ => if -(2 ^ 62) ≤ j ∧ j < 2 ^ 62 then .ok (rngD 0 j) ρ else .stuck
  | .exc e ρ => .exc e ρ
  | _ => .stuck
def fRng2 : Rs (List D) → Rs (List D)
  | .ok [.int i, .int j] ρ => if -(2 ^ 62) ≤ i ∧ i < 2 ^ 62 ∧ -(2 ^ 62) ≤ j ∧ j < 2 ^ 62 then .ok (rngD i j) ρ else .stuck
  | .exc e ρ => .exc e ρ
  | _ => .stuck
def fItems : Rs D → Rs (List D)
  | .ok d ρ => Rs.ofOpt (itemsD d) ρ
  | .exc e ρ => .exc e ρ
  | .stuck => .stuck
def fEnum : Rs (List D) → Rs (List D)
  | .ok [.lst l] ρ => .ok (enumD l) ρ
  | .ok [.scr l] ρ => .ok (enumD (l.map D.int)) ρ
  | .exc e ρ => .exc e ρ
  | _ => .stuck
def fZip : Rs (List D) → Rs (List D)
  | .ok [.lst l, .lst k] ρ => .ok (zipD l k) ρ
  | .ok [.tup l, .tup k] ρ => .ok (zipD l k) ρ
  | .exc e ρ => .exc e ρ
  | _ => .stuck
def fLc2 (ρ1 : Env) (vs : List Nat) : Rs (List D) → Rs D
  | .ok l ρ2 => .ok (.lst l) (restE ρ1 ρ2 vs)
  | _ => .stuck
def fLc (mg : D → Env → Option Env) (mt : Env → Rs Bool) (me : Env → Rs D) (vs : List Nat) : Rs (List D) → Rs D
  | .ok ds ρ => if ds.length ≤ 1000000 then fLc2 ρ vs (lcL mg mt me vs ds [] ρ) else .stuck
  | .exc e ρ => .exc e ρ
  | .stuck => .stuck
def fRun : Out → Rf D
  | .nx _ => .ok .non
  | .ret d _ => .ok d
  | .exc e _ => .exc e
  | _ => .stuck
def fRunN : Out → Rf D
  | .ret d _ => .ok d
  | _ => .stuck
def fRunH2 (d : D) : Option (List D) → Rf (D × List D)
  | some l => .ok (d, l)
  | none => .stuck
def fRunH : Out → Rf (D × List D)
  | .nx ρ => fRunH2 .non (ownL ρ 0)
  | .ret d ρ => fRunH2 d (ownL ρ 0)
  | _ => .stuck
def fR1 (c : Nat) (f : Str) : Rs D → Out
  | .ok d ρ => .exc (.ins c [f] [d]) ρ
  | .exc e ρ => .exc e ρ
  | .stuck => .stuck
def fR22 (c : Nat) (f g : Str) (d : D) : Rs D → Out
  | .ok e ρ => .exc (.ins c [g, f] [e, d]) ρ
  | .exc e ρ => .exc e ρ
  | .stuck => .stuck
def fR2 (c : Nat) (f g : Str) (m2 : Env → Rs D) : Rs D → Out
  | .ok d ρ => fR22 c f g d (m2 ρ)
  | .exc e ρ => .exc e ρ
  | .stuck => .stuck
def fTry2 (i : Nat) (mh : D → Env → Out) (e : D) (ρ : Env) : Option Bool → Out
  | some true => if i < ρ.length then behind i (mh e (ρ.set i none)) else .stuck
  | some false => .exc e ρ
  | none => .stuck
def fTry (i : Nat) (isa : Nat → Option Bool) (mh : D → Env → Out) : Out → Out
  | .exc e ρ => (match e with
    | .ins c ns l => fTry2 i mh (.ins c ns l) ρ (isa c)
    | _ => .stuck)
  | r => r
def fSl3 (d : D) (lo : Option Int) : Rs (Option Int) → Rs D
  | .ok hi ρ => (match d with
    | .lst l => .ok (.lst (cutD l lo hi)) ρ
    | .tup l => .ok (.tup (cutD l lo hi)) ρ
    | _ => .stuck)
  | .exc e ρ => .exc e ρ
  | .stuck => .stuck
def fSl2 (d : D) (b : Env → Rs (Option Int)) : Rs (Option Int) → Rs D
  | .ok lo ρ => fSl3 d lo (b ρ)
  | .exc e ρ => .exc e ρ
  | .stuck => .stuck
def fSl1 (a b : Env → Rs (Option Int)) : Rs D → Rs D
  | .ok d ρ => fSl2 d b (a ρ)
  | .exc e ρ => .exc e ρ
  | .stuck => .stuck
def fOSome : Rs D → Rs (Option Int)
  | .ok (.int i) ρ => .ok (some i) ρ
  | .exc e ρ => .exc e ρ
  | _ => .stuck
def fCh4 (f' : D → D → Option D) (b : D) : Rs D → Rs D
  | .ok c ρ => Rs.ofOpt (f' b c) ρ
  | .exc e ρ => .exc e ρ
  | .stuck => .stuck
def fCh3 (f' : D → D → Option D) (mc : Env → Rs D) (b : D) (ρ : Env) : Option D → Rs D
  | some (.bl x) => sel x (fun ρ => fCh4 f' b (mc ρ)) (rOk (.bl false)) ρ
  | _ => .stuck
def fCh2 (f f' : D → D → Option D) (mc : Env → Rs D) (a : D) : Rs D → Rs D
  | .ok b ρ => fCh3 f' mc b ρ (f a b)
  | .exc e ρ => .exc e ρ
  | .stuck => .stuck
def fCh1 (f f' : D → D → Option D) (mb mc : Env → Rs D) : Rs D → Rs D
  | .ok a ρ => fCh2 f f' mc a (mb ρ)
  | .exc e ρ => .exc e ρ
  | .stuck => .stuck
end
section
variable {ρ : Env} {a b c d e : D} {ma mb mc m : Env → Rs D} {ta tb : Env → Rs Bool} {la : Env → Rs (List D)} {s t : Env → Out} {i j n : Nat} {l ds dd : List D} {x : Bool}
theorem E_c : eC d ρ = .ok d ρ := rfl
theorem E_var : eVar i ρ = varV ρ ρ[i]? := by unfold eVar varV; rfl
theorem E_own : ownL ρ i = ownV ρ[i]? := by unfold ownL ownV; rfl
theorem E_bin {f : D → D → Option D} : eBin f ma mb ρ = fBin1 f mb (ma ρ) := by
  unfold eBin fBin1
  cases ma ρ with
  | ok a ρ1 => show (mb ρ1).bind _ = fBin2 f a (mb ρ1); unfold fBin2; cases mb ρ1 <;> rfl
  | _ => rfl
theorem E_bin1 {f : D → D → Option D} : fBin1 f mb (.ok a ρ) = fBin2 f a (mb ρ) := rfl
theorem E_bin1x {f : D → D → Option D} : fBin1 f mb (.exc e ρ) = .exc e ρ := rfl
theorem E_bin2 {f : D → D → Option D} : fBin2 f a (.ok b ρ) = Rs.ofOpt (f a b) ρ := rfl
theorem E_bin2x {f : D → D → Option D} : fBin2 f a (.exc e ρ) = .exc e ρ := rfl
theorem E_opt {α : Type} {y : α} : Rs.ofOpt (some y) ρ = .ok y ρ := rfl
theorem E_un {f : D → Option D} : eUn f ma ρ = fUn f (ma ρ) := by unfold eUn fUn; cases ma ρ <;> rfl
theorem E_un1 {α : Type} {y : α} {f : α → Option D} : fUn f (.ok y ρ) = Rs.ofOpt (f y) ρ := rfl
theorem E_un1x {α : Type} {f : α → Option D} : fUn f (.exc e ρ) = .exc e ρ := rfl
theorem E_nil : aNil ρ = .ok [] ρ := rfl
theorem E_cons : aCons ma la ρ = fCons1 la (ma ρ) := by
  unfold aCons fCons1
  cases ma ρ with
  | ok a ρ1 => show (la ρ1).bind _ = fCons2 a (la ρ1); unfold fCons2; cases la ρ1 <;> rfl
  | _ => rfl
theorem E_cons1 : fCons1 la (.ok a ρ) = fCons2 a (la ρ) := rfl
theorem E_cons1x : fCons1 la (.exc e ρ) = .exc e ρ := rfl
theorem E_cons2 : fCons2 a (.ok l ρ) = .ok (a :: l) ρ := rfl
theorem E_cons2x : fCons2 a (.exc e ρ) = .exc e ρ := rfl
theorem E_aF {f : List D → Option D} : aF f la ρ = fUn f (la ρ) := by unfold aF fUn; cases la ρ <;> rfl
theorem E_tB : tfB ma ρ = fB (ma ρ) := by
  unfold tfB fB
  cases ma ρ with
  | ok d _ => cases d <;> rfl
  | _ => rfl
theorem E_fB : fB (.ok (.bl x) ρ) = .ok x ρ := rfl
theorem E_fBx : fB (.exc e ρ) = .exc e ρ := rfl
theorem E_tT : tfT ma ρ = fT (ma ρ) := by unfold tfT fT; cases ma ρ <;> rfl
theorem E_fT : fT (.ok d ρ) = Rs.ofOpt (truthD d) ρ := rfl
theorem E_fTx : fT (.exc e ρ) = .exc e ρ := rfl
theorem E_selt {α : Type} {y z : Env → α} : sel true y z ρ = y ρ := rfl
theorem E_self {α : Type} {y z : Env → α} : sel false y z ρ = z ρ := rfl
theorem E_if {α : Type} {y z : Env → Rs α} : fIfR y z (.ok x ρ) = sel x y z ρ := rfl
theorem E_ifx {α : Type} {y z : Env → Rs α} : fIfR y z (.exc e ρ) = .exc e ρ := rfl
theorem E_rOk {α : Type} {y : α} : rOk y ρ = .ok y ρ := rfl
theorem E_tAnd : tfAnd ta tb ρ = fIfR tb (rOk false) (ta ρ) := by
  unfold tfAnd fIfR
  cases ta ρ with
  | ok x ρ1 => cases x <;> rfl
  | _ => rfl
theorem E_tOr : tfOr ta tb ρ = fIfR (rOk true) tb (ta ρ) := by
  unfold tfOr fIfR
  cases ta ρ with
  | ok x ρ1 => cases x <;> rfl
  | _ => rfl
theorem E_tNot : tfNot ta ρ = fNotR (ta ρ) := by unfold tfNot fNotR; cases ta ρ <;> rfl
theorem E_fNotR : fNotR (.ok x ρ) = .ok (!x) ρ := rfl
theorem E_fNotRx : fNotR (.exc e ρ) = .exc e ρ := rfl
theorem E_and : eAnd ma mb ρ = fEAnd mb (ma ρ) := by
  unfold eAnd fEAnd
  cases ma ρ with
  | ok d ρ1 => cases d with
    | bl x => cases x <;> rfl
    | _ => rfl
  | _ => rfl
theorem E_and1 : fEAnd mb (.ok (.bl x) ρ) = sel x mb (rOk (.bl false)) ρ := rfl
theorem E_and1x : fEAnd mb (.exc e ρ) = .exc e ρ := rfl
theorem E_or : eOr ma mb ρ = fEOr mb (ma ρ) := by
  unfold eOr fEOr
  cases ma ρ with
  | ok d ρ1 => cases d with
    | bl x => cases x <;> rfl
    | _ => rfl
  | _ => rfl
theorem E_or1 : fEOr mb (.ok (.bl x) ρ) = sel x (rOk (.bl true)) mb ρ := rfl
theorem E_or1x : fEOr mb (.exc e ρ) = .exc e ρ := rfl
theorem E_not : eNot ma ρ = fENot (ma ρ) := by
  unfold eNot fENot
  cases ma ρ with
  | ok d _ => cases d <;> rfl
  | _ => rfl
theorem E_not1 : fENot (.ok (.bl x) ρ) = .ok (.bl !x) ρ := rfl
theorem E_not1x : fENot (.exc e ρ) = .exc e ρ := rfl
theorem E_eIf : eIf ta ma mb ρ = fIfR ma mb (ta ρ) := by
  unfold eIf fIfR
  cases ta ρ with
  | ok x ρ1 => cases x <;> rfl
  | _ => rfl
theorem E_selT {α : Type} {r : Rs α} : selT true r = r := rfl
theorem E_call {f : List D → Rf D} : eCall n f dd la ρ = fCall n f dd (la ρ) := by
  unfold eCall fCall
  cases la ρ with
  | ok ds ρ1 =>
    show (if (ds ++ dd).length = n then _ else _) = selT (decide ((ds ++ dd).length = n)) _
    by_cases h : (ds ++ dd).length = n
    · rw [if_pos h, decide_eq_true h]; rfl
    · rw [if_neg h, decide_eq_false h]; rfl
  | _ => rfl
theorem E_call1 {f : List D → Rf D} : fCall n f dd (.ok ds ρ) = selT (decide ((ds ++ dd).length = n)) ((f (ds ++ dd)).to ρ) := rfl
theorem E_call1x {f : List D → Rf D} : fCall n f dd (.exc e ρ) = .exc e ρ := rfl
theorem E_to : (Rf.ok d).to ρ = .ok d ρ := rfl
theorem E_tox {α : Type} : (Rf.exc e : Rf α).to ρ = .exc e ρ := rfl
theorem E_callN {f : List D → Rf D} : eCallN n f dd la ρ = fCallN n f dd (la ρ) := by
  unfold eCallN fCallN
  cases la ρ with
  | ok ds ρ1 =>
    show (if (ds ++ dd).length = n then _ else _) = selT (decide ((ds ++ dd).length = n)) _
    by_cases h : (ds ++ dd).length = n
    · rw [if_pos h, decide_eq_true h]; show _ = toN _ _; unfold toN; cases f (ds ++ dd) <;> rfl
    · rw [if_neg h, decide_eq_false h]; rfl
  | _ => rfl
theorem E_callN1 {f : List D → Rf D} : fCallN n f dd (.ok ds ρ) = selT (decide ((ds ++ dd).length = n)) (toN (f (ds ++ dd)) ρ) := rfl
theorem E_toN : toN (.ok d) ρ = .ok d ρ := rfl
theorem E_callH {f : List D → List D → Rf (D × List D)} : eCallH i n f la ρ = ifOwn (ownL ρ i) (fCallH1 i n f (la ρ)) := by
  unfold eCallH ifOwn fCallH1
  cases ownL ρ i with
  | none => rfl
  | some l0 =>
    cases la ρ with
    | ok ds ρ1 =>
      show (if ds.length + 1 = n then _ else _) = _
      by_cases h : ds.length + 1 = n
      · rw [if_pos h]
        show _ = selT (decide (ds.length + 1 = n)) _
        rw [decide_eq_true h]
        show _ = fCallH2 _ _ _ _ _
        unfold fCallH2
        cases ownL ρ1 i with
        | none => rfl
        | some l =>
          show (match f l ds with | .ok (d, l') => Rs.ok d (ρ1.set i (some (.lst l'))) | _ => .stuck) = toH i (f l ds) ρ1
          unfold toH
          cases f l ds <;> rfl
      · rw [if_neg h]
        show _ = selT (decide (ds.length + 1 = n)) _
        rw [decide_eq_false h]; rfl
    | _ => rfl
theorem E_ifOwn {α : Type} {r : Rs α} : ifOwn (some l) r = r := rfl
theorem E_callH1 {f : List D → List D → Rf (D × List D)} : fCallH1 i n f (.ok ds ρ) = selT (decide (ds.length + 1 = n)) (fCallH2 i f ds (ownL ρ i) ρ) := rfl
theorem E_callH2 {f : List D → List D → Rf (D × List D)} : fCallH2 i f ds (some l) ρ = toH i (f l ds) ρ := rfl
theorem E_toH : toH i (.ok (d, l)) ρ = .ok d (ρ.set i (some (.lst l))) := rfl
theorem E_ixO : eIxOwn i ma ρ = ifOwn (ownL ρ i) (fIxO i (ma ρ)) := by
  unfold eIxOwn ifOwn fIxO
  cases ownL ρ i with
  | none => rfl
  | some l0 => cases ma ρ with
    | ok k ρ1 => show _ = fIxO2 _ _ _; unfold fIxO2; show (match ownL ρ1 i with | none => Rs.stuck | some l => Rs.ofOpt (dIx (.lst l) k) ρ1) = _; cases ownL ρ1 i <;> rfl
    | _ => rfl
theorem E_ixO1 : fIxO i (.ok d ρ) = fIxO2 d ρ (ownL ρ i) := rfl
theorem E_ixO2 : fIxO2 d ρ (some l) = Rs.ofOpt (dIx (.lst l) d) ρ := rfl
theorem E_move : eMove i ρ = fMove i ρ (ownL ρ i) := by unfold eMove fMove; cases ownL ρ i <;> rfl
theorem E_move1 : fMove i ρ (some l) = .ok (.lst l) (ρ.set i none) := rfl
theorem E_ownA {f : List D → Option D} : aOwn f i ρ = fOwnA f ρ (ownL ρ i) := by unfold aOwn fOwnA; cases ownL ρ i <;> rfl
theorem E_ownA1 {f : List D → Option D} : fOwnA f ρ (some l) = Rs.ofOpt (f l) ρ := rfl
theorem E_ownV : ownV (some (some (.lst l))) = some l := rfl
theorem E_varV : varV ρ (some (some d)) = .ok d ρ := rfl
theorem E_seq : sSeq s t ρ = thenO t (s ρ) := by unfold sSeq thenO; cases s ρ <;> rfl
theorem E_then : thenO t (.nx ρ) = t ρ := rfl
theorem E_thenr : thenO t (.ret d ρ) = .ret d ρ := rfl
theorem E_thenx : thenO t (.exc d ρ) = .exc d ρ := rfl
theorem E_thenb : thenO t (.brk ρ) = .brk ρ := rfl
theorem E_thenc : thenO t (.ct ρ) = .ct ρ := rfl
theorem E_seqN : sSeqN s t ρ = thenN t (s ρ) := by unfold sSeqN thenN; cases s ρ <;> rfl
theorem E_thenN : thenN t (.nx ρ) = t ρ := rfl
theorem E_next : sNext ρ = .nx ρ := rfl
theorem E_brk : sBrk ρ = .brk ρ := rfl
theorem E_ct : sCt ρ = .ct ρ := rfl
theorem E_expr : sExpr ma ρ = fExpr (ma ρ) := by unfold sExpr fExpr; cases ma ρ <;> rfl
theorem E_expr1 : fExpr (.ok d ρ) = .nx ρ := rfl
theorem E_expr1x : fExpr (.exc e ρ) = .exc e ρ := rfl
theorem E_set : sSet i ma ρ = fSet i (ma ρ) := by unfold sSet fSet; cases ma ρ <;> rfl
theorem E_set1 : fSet i (.ok d ρ) = .nx (ρ.set i (some d)) := rfl
theorem E_set1x : fSet i (.exc e ρ) = .exc e ρ := rfl
theorem E_ret : sRet ma ρ = fRet (ma ρ) := by unfold sRet fRet; cases ma ρ <;> rfl
theorem E_ret1 : fRet (.ok d ρ) = .ret d ρ := rfl
theorem E_ret1x : fRet (.exc e ρ) = .exc e ρ := rfl
theorem E_retN : sRetN ρ = .ret .non ρ := rfl
theorem E_ifS : sIf ta s t ρ = fIfS s t (ta ρ) := by
  unfold sIf fIfS
  cases ta ρ with
  | ok x ρ1 => cases x <;> rfl
  | _ => rfl
theorem E_ifS1 : fIfS s t (.ok x ρ) = sel x s t ρ := rfl
theorem E_ifS1x : fIfS s t (.exc e ρ) = .exc e ρ := rfl
theorem E_asg {mg : D → Env → Option Env} : sAsg mg ma ρ = fAsg mg (ma ρ) := by
  unfold sAsg fAsg
  cases ma ρ with
  | ok d ρ1 => show _ = fAsg2 _; unfold fAsg2; show (match mg d ρ1 with | some ρ2 => Out.nx ρ2 | none => Out.stuck) = _; cases mg d ρ1 <;> rfl
  | _ => rfl
theorem E_asg1 {mg : D → Env → Option Env} : fAsg mg (.ok d ρ) = fAsg2 (mg d ρ) := rfl
theorem E_asg1x {mg : D → Env → Option Env} : fAsg mg (.exc e ρ) = .exc e ρ := rfl
theorem E_asg2 : fAsg2 (some ρ) = .nx ρ := rfl
theorem E_nm : nmG i d ρ = some (ρ.set i (some d)) := rfl
theorem E_nilG : nilG [] ρ = some ρ := rfl
theorem E_consG {f : D → Env → Option Env} {g : List D → Env → Option Env} : consG f g (d :: l) ρ = (f d ρ).bind (g l) := rfl
theorem E_obind {α β : Type} {y : α} {f : α → Option β} : (some y).bind f = f y := rfl
theorem E_tupG2 {g : List D → Env → Option Env} : tupG 2 g (.tup [a, b]) ρ = g [a, b] ρ := rfl
theorem E_tupG3 {g : List D → Env → Option Env} : tupG 3 g (.tup [a, b, c]) ρ = g [a, b, c] ρ := rfl
theorem E_tupG4 {g : List D → Env → Option Env} : tupG 4 g (.tup [a, b, c, d]) ρ = g [a, b, c, d] ρ := rfl
theorem E_par : sPar i j la ρ = fPar i j (la ρ) := by
  unfold sPar fPar
  cases la ρ with
  | ok l ρ1 =>
    cases l with
    | nil => rfl
    | cons y l => cases l with
      | nil => rfl
      | cons z l => cases l <;> rfl
  | _ => rfl
theorem E_par1 : fPar i j (.ok [a, b] ρ) = .nx ((ρ.set i (some a)).set j (some b)) := rfl
theorem E_app : sApp i ma ρ = ifOwnS (ownL ρ i) (fApp i (ma ρ)) := by
  unfold sApp ifOwnS fApp
  cases ownL ρ i with
  | none => rfl
  | some l0 => cases ma ρ with
    | ok k ρ1 => show _ = fApp2 _ _ _ _; unfold fApp2; show (match ownL ρ1 i with | none => Out.stuck | some l => if l.length < 1000000 then .nx (ρ1.set i (some (.lst (l ++ [k])))) else .stuck) = _; cases ownL ρ1 i <;> rfl
    | _ => rfl
theorem E_ifOwnS {r : Out} : ifOwnS (some l) r = r := rfl
theorem E_app1 : fApp i (.ok d ρ) = fApp2 i d ρ (ownL ρ i) := rfl
theorem E_app1x : fApp i (.exc d ρ) = .exc d ρ := rfl
theorem E_app20 : fApp2 i d ρ (some []) = .nx (ρ.set i (some (.lst [d]))) := rfl
theorem E_app2 (h : l.length < 1000000) : fApp2 i d ρ (some l) = .nx (ρ.set i (some (.lst (l ++ [d])))) := if_pos h
theorem E_setIx : sSetIx i mb ma ρ = fSI1 i mb (ma ρ) := by
  unfold sSetIx fSI1
  cases ma ρ with
  | ok d ρ1 =>
    show (match ownL ρ1 i with | none => Out.stuck | some _ => (mb ρ1).out fun k ρ2 => match ownL ρ2 i, k with
      | some l, .int n => (match ixN l.length n with | some j => Out.nx (ρ2.set i (some (.lst (l.set j d)))) | none => .stuck)
      | _, _ => .stuck) = ifOwnS _ _
    unfold ifOwnS
    cases ownL ρ1 i with
    | none => rfl
    | some l0 =>
      show _ = fSI2 _ _ _
      unfold fSI2
      show (mb ρ1).out _ = _
      cases mb ρ1 with
      | ok k ρ2 =>
        show (match ownL ρ2 i, k with
          | some l, .int n => (match ixN l.length n with | some j => Out.nx (ρ2.set i (some (.lst (l.set j d)))) | none => .stuck)
          | _, _ => .stuck) = fSI3 _ _ _ _ _
        unfold fSI3
        cases ownL ρ2 i with
        | none => rfl
        | some l => cases k with
          | int n =>
            show _ = fSI4 _ _ _ _ _
            unfold fSI4
            show (match ixN l.length n with | some j => Out.nx (ρ2.set i (some (.lst (l.set j d)))) | none => .stuck) = _
            cases ixN l.length n <;> rfl
          | _ => rfl
      | _ => rfl
  | _ => rfl
theorem E_SI1 : fSI1 i mb (.ok d ρ) = ifOwnS (ownL ρ i) (fSI2 i d (mb ρ)) := rfl
theorem E_SI2 : fSI2 i d (.ok a ρ) = fSI3 i d a ρ (ownL ρ i) := rfl
theorem E_SI3 {z : Int} : fSI3 i d (.int z) ρ (some l) = fSI4 i l d ρ (ixN l.length z) := rfl
theorem E_SI4 : fSI4 i l d ρ (some j) = .nx (ρ.set i (some (.lst (l.set j d)))) := rfl
theorem E_for {mi : Env → Rs (List D)} {mg : D → Env → Option Env} : sFor mi mg s ρ = fFor mg s (mi ρ) := by unfold sFor fFor; cases mi ρ <;> rfl
theorem E_for1 {mg : D → Env → Option Env} : fFor mg s (.ok ds ρ) = forL mg s ds ρ := rfl
theorem E_for1x {mg : D → Env → Option Env} : fFor mg s (.exc e ρ) = .exc e ρ := rfl
theorem E_items : iSeqM ma ρ = fItems (ma ρ) := by unfold iSeqM fItems; cases ma ρ <;> rfl
theorem E_items1 : fItems (.ok d ρ) = Rs.ofOpt (itemsD d) ρ := rfl
theorem E_itL : itemsD (.lst l) = some l := rfl
theorem E_itS {ns : List Int} : itemsD (.scr ns) = some (ns.map D.int) := rfl
theorem E_itT : itemsD (.tup l) = some l := rfl
theorem E_rng1 : rng1M la ρ = fRng1 (la ρ) := by
  unfold rng1M fRng1
  cases la ρ with
  | ok l ρ1 =>
    cases l with
    | nil => rfl
    | cons y l => cases l with
      | nil => cases y <;> rfl
      | cons z l => cases y <;> rfl
  | _ => rfl
theorem E_rng11 {z : Int} (h : -(2 ^ 62) ≤ z) (h2 : z < 2 ^ 62) : fRng1 (.ok [.int z] ρ) = .ok (rngD 0 z) ρ := if_pos ⟨h, h2⟩
theorem E_rng2 : rng2M la ρ = fRng2 (la ρ) := by
  unfold rng2M fRng2
  cases la ρ with
  | ok l ρ1 =>
    cases l with
    | nil => rfl
    | cons y l => cases l with
      | nil => cases y <;> rfl
      | cons z l => cases l with
        | nil => cases y <;> cases z <;> rfl
        | cons w l => cases y <;> cases z <;> rfl
  | _ => rfl
theorem E_rng21 {y z : Int} (h : -(2 ^ 62) ≤ y) (h2 : y < 2 ^ 62) (h3 : -(2 ^ 62) ≤ z) (h4 : z < 2 ^ 62) : fRng2 (.ok [.int y, .int z] ρ) = .ok (rngD y z) ρ := if_pos ⟨h, h2, h3, h4⟩
theorem E_lc {mi : Env → Rs (List D)} {mg : D → Env → Option Env} {vs : List Nat} : eLc mi mg ta ma vs ρ = fLc mg ta ma vs (mi ρ) := by
  unfold eLc fLc
  cases mi ρ with
  | ok ds ρ1 =>
    show (if ds.length ≤ 1000000 then (match lcL mg ta ma vs ds [] ρ1 with
    | .ok l ρ2 => Rs.ok (D.lst l) (restE ρ1 ρ2 vs)
    | _ => .stuck) else .stuck) = (if ds.length ≤ 1000000 then fLc2 ρ1 vs (lcL mg ta ma vs ds [] ρ1) else .stuck)
    unfold fLc2
    cases lcL mg ta ma vs ds [] ρ1 <;> rfl
  | _ => rfl
theorem E_lc1 {mg : D → Env → Option Env} {vs : List Nat} (h : ds.length ≤ 1000000) : fLc mg ta ma vs (.ok ds ρ) = fLc2 ρ vs (lcL mg ta ma vs ds [] ρ) := if_pos h
theorem E_lc1x {mg : D → Env → Option Env} {vs : List Nat} : fLc mg ta ma vs (.exc e ρ) = .exc e ρ := rfl
theorem E_lc2 {vs : List Nat} {ρ1 : Env} : fLc2 ρ vs (.ok l ρ1) = .ok (.lst l) (restE ρ ρ1 vs) := rfl
theorem E_runF {f : Env → Out} : runF n f ds = fRun (f (entry n ds)) := by unfold runF fRun; cases f (entry n ds) <;> rfl
theorem E_runr : fRun (.ret d ρ) = .ok d := rfl
theorem E_runn : fRun (.nx ρ) = .ok .non := rfl
theorem E_runx : fRun (.exc d ρ) = .exc d := rfl
theorem E_runN {f : Env → Out} : runN n f ds = fRunN (f (entry n ds)) := by unfold runN fRunN; cases f (entry n ds) <;> rfl
theorem E_runNr : fRunN (.ret d ρ) = .ok d := rfl
theorem E_runH {f : Env → Out} : runH n f l ds = fRunH (f (entry n (.lst l :: ds))) := by
  unfold runH fRunH
  cases f (entry n (.lst l :: ds)) with
  | nx ρ => show _ = fRunH2 _ _; unfold fRunH2; show (match ownL ρ 0 with | some l' => Rf.ok (D.non, l') | none => .stuck) = _; cases ownL ρ 0 <;> rfl
  | ret d ρ => show _ = fRunH2 _ _; unfold fRunH2; show (match ownL ρ 0 with | some l' => Rf.ok (d, l') | none => .stuck) = _; cases ownL ρ 0 <;> rfl
  | _ => rfl
theorem E_runHr : fRunH (.ret d ρ) = fRunH2 d (ownL ρ 0) := rfl
theorem E_runHn : fRunH (.nx ρ) = fRunH2 .non (ownL ρ 0) := rfl
theorem E_runH2 : fRunH2 d (some l) = .ok (d, l) := rfl
theorem E_raise1 {f : Str} : sRaise1 i f ma ρ = fR1 i f (ma ρ) := by unfold sRaise1 fR1; cases ma ρ <;> rfl
theorem E_R1 {f : Str} : fR1 i f (.ok d ρ) = .exc (.ins i [f] [d]) ρ := rfl
theorem E_raise2 {f g : Str} : sRaise2 i f g ma mb ρ = fR2 i f g mb (ma ρ) := by
  unfold sRaise2 fR2
  cases ma ρ with
  | ok d ρ1 => show (mb ρ1).out _ = fR22 _ _ _ _ _; unfold fR22; cases mb ρ1 <;> rfl
  | _ => rfl
theorem E_R2 {f g : Str} : fR2 i f g mb (.ok d ρ) = fR22 i f g d (mb ρ) := rfl
theorem E_R22 {f g : Str} : fR22 i f g d (.ok e ρ) = .exc (.ins i [g, f] [e, d]) ρ := rfl
theorem E_raise0 : sRaise0 i ρ = .exc (.ins i [] []) ρ := rfl
theorem E_try {isa : Nat → Option Bool} {mh : D → Env → Out} : sTry i isa s mh ρ = fTry i isa mh (s ρ) := by
  unfold sTry fTry
  cases s ρ with
  | exc e ρ1 => cases e with
    | ins c ns l =>
      show (match isa c with | some true => if i < ρ1.length then behind i (mh (.ins c ns l) (ρ1.set i none)) else .stuck | some false => .exc (.ins c ns l) ρ1 | none => .stuck) = fTry2 _ _ _ _ _
      unfold fTry2
      cases isa c with
      | none => rfl
      | some x => cases x <;> rfl
    | _ => rfl
  | _ => rfl
theorem E_try1 {isa : Nat → Option Bool} {mh : D → Env → Out} : fTry i isa mh (.nx ρ) = .nx ρ := rfl
theorem E_tryr {isa : Nat → Option Bool} {mh : D → Env → Out} : fTry i isa mh (.ret d ρ) = .ret d ρ := rfl
theorem E_tryx {isa : Nat → Option Bool} {mh : D → Env → Out} {ns : List Str} : fTry i isa mh (.exc (.ins j ns l) ρ) = fTry2 i mh (.ins j ns l) ρ (isa j) := rfl
theorem E_try2 {mh : D → Env → Out} (h : i < ρ.length) : fTry2 i mh e ρ (some true) = behind i (mh e (ρ.set i none)) := if_pos h
theorem E_try2f {mh : D → Env → Out} : fTry2 i mh e ρ (some false) = .exc e ρ := rfl
theorem E_beh : behind i (.nx ρ) = .nx (ρ.set i none) := rfl
theorem E_behr : behind i (.ret d ρ) = .ret d (ρ.set i none) := rfl
theorem E_behb : behind i (.brk ρ) = .brk (ρ.set i none) := rfl
theorem E_behc : behind i (.ct ρ) = .ct (ρ.set i none) := rfl
theorem E_sl {oa ob : Env → Rs (Option Int)} : eSl ma oa ob ρ = fSl1 oa ob (ma ρ) := by
  unfold eSl fSl1
  cases ma ρ with
  | ok d ρ1 =>
    show (oa ρ1).bind _ = fSl2 _ _ _
    unfold fSl2
    cases oa ρ1 with
    | ok lo ρ2 =>
      show (ob ρ2).bind _ = fSl3 _ _ _
      unfold fSl3
      cases ob ρ2 <;> cases d <;> rfl
    | _ => rfl
  | _ => rfl
theorem E_sl1 {oa ob : Env → Rs (Option Int)} : fSl1 oa ob (.ok d ρ) = fSl2 d ob (oa ρ) := rfl
theorem E_sl2 {ob : Env → Rs (Option Int)} {lo : Option Int} : fSl2 d ob (.ok lo ρ) = fSl3 d lo (ob ρ) := rfl
theorem E_sl3 {lo hi : Option Int} : fSl3 (.lst l) lo (.ok hi ρ) = .ok (.lst (cutD l lo hi)) ρ := rfl
theorem E_sl3t {lo hi : Option Int} : fSl3 (.tup l) lo (.ok hi ρ) = .ok (.tup (cutD l lo hi)) ρ := rfl
theorem E_oN : oNone ρ = .ok none ρ := rfl
theorem E_oS : oSome ma ρ = fOSome (ma ρ) := by
  unfold oSome fOSome
  cases ma ρ with
  | ok d _ => cases d <;> rfl
  | _ => rfl
theorem E_oS1 {z : Int} : fOSome (.ok (.int z) ρ) = .ok (some z) ρ := rfl
theorem E_ch {f f' : D → D → Option D} : eChain f f' ma mb mc ρ = fCh1 f f' mb mc (ma ρ) := by
  unfold eChain fCh1
  cases ma ρ with
  | ok a ρ1 =>
    show (mb ρ1).bind _ = fCh2 _ _ _ _ _
    unfold fCh2
    cases mb ρ1 with
    | ok b ρ2 =>
      show (Rs.ofOpt (f a b) ρ2).bind (chK f' mc b) = fCh3 _ _ _ _ _
      unfold fCh3
      cases f a b with
      | none => rfl
      | some z => cases z with
        | bl x => cases x with
          | true =>
            show (mc ρ2).bind _ = fCh4 f' b (mc ρ2)
            unfold fCh4
            cases mc ρ2 <;> rfl
          | false => rfl
        | _ => rfl
    | _ => rfl
  | _ => rfl
theorem E_ch1 {f f' : D → D → Option D} : fCh1 f f' mb mc (.ok a ρ) = fCh2 f f' mc a (mb ρ) := rfl
theorem E_ch2 {f f' : D → D → Option D} : fCh2 f f' mc a (.ok b ρ) = fCh3 f' mc b ρ (f a b) := rfl
theorem E_ch3t {f' : D → D → Option D} : fCh3 f' mc b ρ (some (.bl true)) = fCh4 f' b (mc ρ) := rfl
theorem E_ch3f {f' : D → D → Option D} : fCh3 f' mc b ρ (some (.bl false)) = .ok (.bl false) ρ := rfl
theorem E_ch4 {f' : D → D → Option D} : fCh4 f' b (.ok c ρ) = Rs.ofOpt (f' b c) ρ := rfl
theorem E_enum : enumM la ρ = fEnum (la ρ) := by
  unfold enumM fEnum
  cases la ρ with
  | ok l ρ1 =>
    cases l with
    | nil => rfl
    | cons y l => cases l <;> cases y <;> rfl
  | _ => rfl
theorem E_enum1 : fEnum (.ok [.lst l] ρ) = .ok (enumD l) ρ := rfl
theorem E_zip : zipM la ρ = fZip (la ρ) := by
  unfold zipM fZip
  cases la ρ with
  | ok l ρ1 =>
    cases l with
    | nil => rfl
    | cons y l => cases l with
      | nil => cases y <;> rfl
      | cons z l => cases l with
        | nil => cases y <;> cases z <;> rfl
        | cons w l => cases y <;> cases z <;> rfl
  | _ => rfl
theorem E_zip1 : fZip (.ok [.lst l, .lst ds] ρ) = .ok (zipD l ds) ρ := rfl
theorem E_zip1t : fZip (.ok [.tup l, .tup ds] ρ) = .ok (zipD l ds) ρ := rfl
/- data -/
variable {y z : Int}
theorem E_add : dAdd (.int y) (.int z) = some (.int (y + z)) := rfl
theorem E_sub : dSub (.int y) (.int z) = some (.int (y - z)) := rfl
theorem E_neg : dNeg (.int y) = some (.int (-y)) := rfl
theorem E_lt : dLt (.int y) (.int z) = some (.bl (decide (y < z))) := rfl
theorem E_le : dLe (.int y) (.int z) = some (.bl (decide (y ≤ z))) := rfl
theorem E_gt : dGt (.int y) (.int z) = some (.bl (decide (z < y))) := rfl
theorem E_ge : dGe (.int y) (.int z) = some (.bl (decide (z ≤ y))) := rfl
theorem E_eq : dEq (.int y) (.int z) = some (.bl (decide (y = z))) := dEq_int y z
theorem E_ne : dNe (.int y) (.int z) = some (.bl (!decide (y = z))) := dNe_int y z
theorem E_mod (h : z ≠ 0) : dMod (.int y) (.int z) = some (.int (y.fmod z)) := dMod_of h
theorem E_trI : truthD (.int y) = some (!decide (y = 0)) := truthD_int y
theorem E_trB : truthD (.bl x) = some x := rfl
theorem E_trN : truthD .non = some false := rfl
theorem E_trL : truthD (.lst l) = some !l.isEmpty := rfl
theorem E_trT : truthD (.tup l) = some !l.isEmpty := rfl
theorem E_lenL : dLen [.lst l] = some (.int l.length) := rfl
theorem E_lenT : dLen [.tup l] = some (.int l.length) := rfl
theorem E_lenS {ns : List Int} : dLen [.scr ns] = some (.int ns.length) := rfl
theorem E_listS {ns : List Int} : dList [.scr ns] = some (.lst (ns.map D.int)) := rfl
theorem E_intB : dInt [.bl x] = some (.int (if x then 1 else 0)) := rfl
theorem E_intI : dInt [.int y] = some (.int y) := rfl
theorem E_abs : dAbs [.int y] = some (.int (if y < 0 then -y else y)) := rfl
theorem E_listL : dList [.lst l] = some (.lst l) := rfl
theorem E_listT : dList [.tup l] = some (.lst l) := rfl
theorem E_tupleL : dTuple [.lst l] = some (.tup l) := rfl
theorem E_tupleT : dTuple [.tup l] = some (.tup l) := rfl
theorem E_dTup0 : dTup [] = some (.tup []) := rfl
theorem E_dTup1 {x0 : D} : dTup [x0] = some (.tup [x0]) := rfl
theorem E_dTup2 {x0 x1 : D} : dTup [x0, x1] = some (.tup [x0, x1]) := rfl
theorem E_dTup3 {x0 x1 x2 : D} : dTup [x0, x1, x2] = some (.tup [x0, x1, x2]) := rfl
theorem E_dTup4 {x0 x1 x2 x3 : D} : dTup [x0, x1, x2, x3] = some (.tup [x0, x1, x2, x3]) := rfl
theorem E_dTup5 {x0 x1 x2 x3 x4 : D} : dTup [x0, x1, x2, x3, x4] = some (.tup [x0, x1, x2, x3, x4]) := rfl
theorem E_dTup6 {x0 x1 x2 x3 x4 x5 : D} : dTup [x0, x1, x2, x3, x4, x5] = some (.tup [x0, x1, x2, x3, x4, x5]) := rfl
theorem E_dTup7 {x0 x1 x2 x3 x4 x5 x6 : D} : dTup [x0, x1, x2, x3, x4, x5, x6] = some (.tup [x0, x1, x2, x3, x4, x5, x6]) := rfl
theorem E_dTup8 {x0 x1 x2 x3 x4 x5 x6 x7 : D} : dTup [x0, x1, x2, x3, x4, x5, x6, x7] = some (.tup [x0, x1, x2, x3, x4, x5, x6, x7]) := rfl
theorem E_dTup9 {x0 x1 x2 x3 x4 x5 x6 x7 x8 : D} : dTup [x0, x1, x2, x3, x4, x5, x6, x7, x8] = some (.tup [x0, x1, x2, x3, x4, x5, x6, x7, x8]) := rfl
theorem E_dTup10 {x0 x1 x2 x3 x4 x5 x6 x7 x8 x9 : D} : dTup [x0, x1, x2, x3, x4, x5, x6, x7, x8, x9] = some (.tup [x0, x1, x2, x3, x4, x5, x6, x7, x8, x9]) := rfl
theorem E_dTup11 {x0 x1 x2 x3 x4 x5 x6 x7 x8 x9 x10 : D} : dTup [x0, x1, x2, x3, x4, x5, x6, x7, x8, x9, x10] = some (.tup [x0, x1, x2, x3, x4, x5, x6, x7, x8, x9, x10]) := rfl
theorem E_dTup12 {x0 x1 x2 x3 x4 x5 x6 x7 x8 x9 x10 x11 : D} : dTup [x0, x1, x2, x3, x4, x5, x6, x7, x8, x9, x10, x11] = some (.tup [x0, x1, x2, x3, x4, x5, x6, x7, x8, x9, x10, x11]) := rfl
theorem E_dLst0 : dLst [] = some (.lst []) := rfl
theorem E_dLst1 {x0 : D} : dLst [x0] = some (.lst [x0]) := rfl
theorem E_dLst2 {x0 x1 : D} : dLst [x0, x1] = some (.lst [x0, x1]) := rfl
theorem E_dLst3 {x0 x1 x2 : D} : dLst [x0, x1, x2] = some (.lst [x0, x1, x2]) := rfl
theorem E_dLst4 {x0 x1 x2 x3 : D} : dLst [x0, x1, x2, x3] = some (.lst [x0, x1, x2, x3]) := rfl
theorem E_dLst5 {x0 x1 x2 x3 x4 : D} : dLst [x0, x1, x2, x3, x4] = some (.lst [x0, x1, x2, x3, x4]) := rfl
theorem E_dLst6 {x0 x1 x2 x3 x4 x5 : D} : dLst [x0, x1, x2, x3, x4, x5] = some (.lst [x0, x1, x2, x3, x4, x5]) := rfl
theorem E_dLst7 {x0 x1 x2 x3 x4 x5 x6 : D} : dLst [x0, x1, x2, x3, x4, x5, x6] = some (.lst [x0, x1, x2, x3, x4, x5, x6]) := rfl
theorem E_dLst8 {x0 x1 x2 x3 x4 x5 x6 x7 : D} : dLst [x0, x1, x2, x3, x4, x5, x6, x7] = some (.lst [x0, x1, x2, x3, x4, x5, x6, x7]) := rfl
theorem E_dLst9 {x0 x1 x2 x3 x4 x5 x6 x7 x8 : D} : dLst [x0, x1, x2, x3, x4, x5, x6, x7, x8] = some (.lst [x0, x1, x2, x3, x4, x5, x6, x7, x8]) := rfl
theorem E_dLst10 {x0 x1 x2 x3 x4 x5 x6 x7 x8 x9 : D} : dLst [x0, x1, x2, x3, x4, x5, x6, x7, x8, x9] = some (.lst [x0, x1, x2, x3, x4, x5, x6, x7, x8, x9]) := rfl
theorem E_dLst11 {x0 x1 x2 x3 x4 x5 x6 x7 x8 x9 x10 : D} : dLst [x0, x1, x2, x3, x4, x5, x6, x7, x8, x9, x10] = some (.lst [x0, x1, x2, x3, x4, x5, x6, x7, x8, x9, x10]) := rfl
theorem E_dLst12 {x0 x1 x2 x3 x4 x5 x6 x7 x8 x9 x10 x11 : D} : dLst [x0, x1, x2, x3, x4, x5, x6, x7, x8, x9, x10, x11] = some (.lst [x0, x1, x2, x3, x4, x5, x6, x7, x8, x9, x10, x11]) := rfl
theorem E_gcd : dGcd [.int y, .int z] = some (.int (Nat.gcd y.natAbs z.natAbs : Nat)) := rfl
theorem E_isNnon : dIsN .non = some (.bl true) := rfl
theorem E_notN : dNotN .non = some (.bl false) := rfl
theorem E_isB {x' : Bool} : dIsB (.bl x) (.bl x') = some (.bl (decide (x = x'))) := rfl
theorem E_notB {x' : Bool} : dNotB (.bl x) (.bl x') = some (.bl (!decide (x = x'))) := rfl
theorem E_ixL : dIx (.lst l) (.int z) = atI l z := by first | rfl | (unfold dIx; rfl)
theorem E_ixT : dIx (.tup l) (.int z) = atI l z := by first | rfl | (unfold dIx; rfl)
theorem E_at0 {α : Type} {y : α} {l : List α} : atI (y :: l) 0 = some y := atI_of (n := 0) rfl rfl
theorem E_at1 {α : Type} {y1 y : α} {l : List α} : atI (y1 :: y :: l) 1 = some y := atI_of (n := 1) rfl rfl
theorem E_at2 {α : Type} {y1 y2 y : α} {l : List α} : atI (y1 :: y2 :: y :: l) 2 = some y := atI_of (n := 2) rfl rfl
theorem E_at3 {α : Type} {y1 y2 y3 y : α} {l : List α} : atI (y1 :: y2 :: y3 :: y :: l) 3 = some y := atI_of (n := 3) rfl rfl
theorem E_at4 {α : Type} {y1 y2 y3 y4 y : α} {l : List α} : atI (y1 :: y2 :: y3 :: y4 :: y :: l) 4 = some y := atI_of (n := 4) rfl rfl
theorem E_at5 {α : Type} {y1 y2 y3 y4 y5 y : α} {l : List α} : atI (y1 :: y2 :: y3 :: y4 :: y5 :: y :: l) 5 = some y := atI_of (n := 5) rfl rfl
theorem E_isi_int_N {x : Bool} {y : Int} {u : Str} {l : List D} {ns : List Int} : dIsi "int" .non = some (.bl false) := rfl
theorem E_isi_int_B {x : Bool} {y : Int} {u : Str} {l : List D} {ns : List Int} : dIsi "int" (.bl x) = some (.bl true) := rfl
theorem E_isi_int_I {x : Bool} {y : Int} {u : Str} {l : List D} {ns : List Int} : dIsi "int" (.int y) = some (.bl true) := rfl
theorem E_isi_int_S {x : Bool} {y : Int} {u : Str} {l : List D} {ns : List Int} : dIsi "int" (.str u) = some (.bl false) := rfl
theorem E_isi_int_T {x : Bool} {y : Int} {u : Str} {l : List D} {ns : List Int} : dIsi "int" (.tup l) = some (.bl false) := rfl
theorem E_isi_int_L {x : Bool} {y : Int} {u : Str} {l : List D} {ns : List Int} : dIsi "int" (.lst l) = some (.bl false) := rfl
theorem E_isi_int_C {x : Bool} {y : Int} {u : Str} {l : List D} {ns : List Int} : dIsi "int" (.scr ns) = some (.bl false) := rfl
theorem E_isi_bool_N {x : Bool} {y : Int} {u : Str} {l : List D} {ns : List Int} : dIsi "bool" .non = some (.bl false) := rfl
theorem E_isi_bool_B {x : Bool} {y : Int} {u : Str} {l : List D} {ns : List Int} : dIsi "bool" (.bl x) = some (.bl true) := rfl
theorem E_isi_bool_I {x : Bool} {y : Int} {u : Str} {l : List D} {ns : List Int} : dIsi "bool" (.int y) = some (.bl false) := rfl
theorem E_isi_bool_S {x : Bool} {y : Int} {u : Str} {l : List D} {ns : List Int} : dIsi "bool" (.str u) = some (.bl false) := rfl
theorem E_isi_bool_T {x : Bool} {y : Int} {u : Str} {l : List D} {ns : List Int} : dIsi "bool" (.tup l) = some (.bl false) := rfl
theorem E_isi_bool_L {x : Bool} {y : Int} {u : Str} {l : List D} {ns : List Int} : dIsi "bool" (.lst l) = some (.bl false) := rfl
theorem E_isi_bool_C {x : Bool} {y : Int} {u : Str} {l : List D} {ns : List Int} : dIsi "bool" (.scr ns) = some (.bl false) := rfl
theorem E_isi_str_N {x : Bool} {y : Int} {u : Str} {l : List D} {ns : List Int} : dIsi "str" .non = some (.bl false) := rfl
theorem E_isi_str_B {x : Bool} {y : Int} {u : Str} {l : List D} {ns : List Int} : dIsi "str" (.bl x) = some (.bl false) := rfl
theorem E_isi_str_I {x : Bool} {y : Int} {u : Str} {l : List D} {ns : List Int} : dIsi "str" (.int y) = some (.bl false) := rfl
theorem E_isi_str_S {x : Bool} {y : Int} {u : Str} {l : List D} {ns : List Int} : dIsi "str" (.str u) = some (.bl true) := rfl
theorem E_isi_str_T {x : Bool} {y : Int} {u : Str} {l : List D} {ns : List Int} : dIsi "str" (.tup l) = some (.bl false) := rfl
theorem E_isi_str_L {x : Bool} {y : Int} {u : Str} {l : List D} {ns : List Int} : dIsi "str" (.lst l) = some (.bl false) := rfl
theorem E_isi_str_C {x : Bool} {y : Int} {u : Str} {l : List D} {ns : List Int} : dIsi "str" (.scr ns) = some (.bl false) := rfl
theorem E_isi_list_N {x : Bool} {y : Int} {u : Str} {l : List D} {ns : List Int} : dIsi "list" .non = some (.bl false) := rfl
theorem E_isi_list_B {x : Bool} {y : Int} {u : Str} {l : List D} {ns : List Int} : dIsi "list" (.bl x) = some (.bl false) := rfl
theorem E_isi_list_I {x : Bool} {y : Int} {u : Str} {l : List D} {ns : List Int} : dIsi "list" (.int y) = some (.bl false) := rfl
theorem E_isi_list_S {x : Bool} {y : Int} {u : Str} {l : List D} {ns : List Int} : dIsi "list" (.str u) = some (.bl false) := rfl
theorem E_isi_list_T {x : Bool} {y : Int} {u : Str} {l : List D} {ns : List Int} : dIsi "list" (.tup l) = some (.bl false) := rfl
theorem E_isi_list_L {x : Bool} {y : Int} {u : Str} {l : List D} {ns : List Int} : dIsi "list" (.lst l) = some (.bl true) := rfl
theorem E_isi_list_C {x : Bool} {y : Int} {u : Str} {l : List D} {ns : List Int} : dIsi "list" (.scr ns) = some (.bl true) := rfl
theorem E_isi_tuple_N {x : Bool} {y : Int} {u : Str} {l : List D} {ns : List Int} : dIsi "tuple" .non = some (.bl false) := rfl
theorem E_isi_tuple_B {x : Bool} {y : Int} {u : Str} {l : List D} {ns : List Int} : dIsi "tuple" (.bl x) = some (.bl false) := rfl
theorem E_isi_tuple_I {x : Bool} {y : Int} {u : Str} {l : List D} {ns : List Int} : dIsi "tuple" (.int y) = some (.bl false) := rfl
theorem E_isi_tuple_S {x : Bool} {y : Int} {u : Str} {l : List D} {ns : List Int} : dIsi "tuple" (.str u) = some (.bl false) := rfl
theorem E_isi_tuple_T {x : Bool} {y : Int} {u : Str} {l : List D} {ns : List Int} : dIsi "tuple" (.tup l) = some (.bl true) := rfl
theorem E_isi_tuple_L {x : Bool} {y : Int} {u : Str} {l : List D} {ns : List Int} : dIsi "tuple" (.lst l) = some (.bl false) := rfl
theorem E_isi_tuple_C {x : Bool} {y : Int} {u : Str} {l : List D} {ns : List Int} : dIsi "tuple" (.scr ns) = some (.bl false) := rfl
theorem E_isi2_N {x : Bool} {y : Int} {u : Str} {l : List D} {ns : List Int} : dIsi2 "list" "tuple" .non = some (.bl false) := rfl
theorem E_isi2_B {x : Bool} {y : Int} {u : Str} {l : List D} {ns : List Int} : dIsi2 "list" "tuple" (.bl x) = some (.bl false) := rfl
theorem E_isi2_I {x : Bool} {y : Int} {u : Str} {l : List D} {ns : List Int} : dIsi2 "list" "tuple" (.int y) = some (.bl false) := rfl
theorem E_isi2_S {x : Bool} {y : Int} {u : Str} {l : List D} {ns : List Int} : dIsi2 "list" "tuple" (.str u) = some (.bl false) := rfl
theorem E_isi2_T {x : Bool} {y : Int} {u : Str} {l : List D} {ns : List Int} : dIsi2 "list" "tuple" (.tup l) = some (.bl true) := rfl
theorem E_isi2_L {x : Bool} {y : Int} {u : Str} {l : List D} {ns : List Int} : dIsi2 "list" "tuple" (.lst l) = some (.bl true) := rfl
theorem E_isi2_C {x : Bool} {y : Int} {u : Str} {l : List D} {ns : List Int} : dIsi2 "list" "tuple" (.scr ns) = some (.bl true) := rfl
theorem E_isN_B {x : Bool} {y : Int} {u : Str} {l : List D} {ns : List Int} : dIsN (.bl x) = some (.bl false) := rfl
theorem E_notN_B {x : Bool} {y : Int} {u : Str} {l : List D} {ns : List Int} : dNotN (.bl x) = some (.bl true) := rfl
theorem E_isN_I {x : Bool} {y : Int} {u : Str} {l : List D} {ns : List Int} : dIsN (.int y) = some (.bl false) := rfl
theorem E_notN_I {x : Bool} {y : Int} {u : Str} {l : List D} {ns : List Int} : dNotN (.int y) = some (.bl true) := rfl
theorem E_isN_S {x : Bool} {y : Int} {u : Str} {l : List D} {ns : List Int} : dIsN (.str u) = some (.bl false) := rfl
theorem E_notN_S {x : Bool} {y : Int} {u : Str} {l : List D} {ns : List Int} : dNotN (.str u) = some (.bl true) := rfl
theorem E_isN_T {x : Bool} {y : Int} {u : Str} {l : List D} {ns : List Int} : dIsN (.tup l) = some (.bl false) := rfl
theorem E_notN_T {x : Bool} {y : Int} {u : Str} {l : List D} {ns : List Int} : dNotN (.tup l) = some (.bl true) := rfl
theorem E_isN_L {x : Bool} {y : Int} {u : Str} {l : List D} {ns : List Int} : dIsN (.lst l) = some (.bl false) := rfl
theorem E_notN_L {x : Bool} {y : Int} {u : Str} {l : List D} {ns : List Int} : dNotN (.lst l) = some (.bl true) := rfl
theorem E_isN_C {x : Bool} {y : Int} {u : Str} {l : List D} {ns : List Int} : dIsN (.scr ns) = some (.bl false) := rfl
theorem E_notN_C {x : Bool} {y : Int} {u : Str} {l : List D} {ns : List Int} : dNotN (.scr ns) = some (.bl true) := rfl
theorem E_isa1 {c : Nat} {b : Bool} {l : List (Nat × Bool)} : isaL ((c, b) :: l) c = some b := by unfold isaL; simp
theorem E_isa2 {c k : Nat} {b : Bool} {l : List (Nat × Bool)} (h : c ≠ k) : isaL ((k, b) :: l) c = isaL l c := by
  unfold isaL
  have e : (c == k) = false := by simpa using h
  simp [List.lookup, e]
theorem E_lk1 {α : Type} {f : Str} {y : α} {l : List (Str × α)} : List.lookup f ((f, y) :: l) = some y := by simp
theorem E_xf {c : Nat} {ns : List Str} {l : List D} {f : Str} {ρ : Env} : eXf (.ins c ns l) c f ρ = Rs.ofOpt ((ns.zip l).lookup f) ρ := if_pos rfl
theorem E_fam {c : Nat} {ns : List Str} {l : List D} {cs : List Nat} {ρ : Env} (h : c ∈ cs) : eFam (.ins c ns l) cs ρ = .ok (.bl true) ρ := if_pos h
theorem E_mul {a b : Int} (h1 : -(2 ^ 64) < a) (h2 : a < 2 ^ 64) (h3 : -(2 ^ 64) < b) (h4 : b < 2 ^ 64) : dMul (.int a) (.int b) = some (.int (a * b)) := dMul64 h1 h2 h3 h4
theorem E_fdiv {a b : Int} (h0 : b ≠ 0) (h1 : -(2 ^ 64) < b) (h2 : b < 2 ^ 64) : dFdiv (.int a) (.int b) = some (.int (a.fdiv b)) := dFdiv64 h0 h1 h2
theorem E_ixN {n : Nat} {i : Int} (h1 : 0 ≤ i) (h2 : i.toNat < n) : ixN n i = some i.toNat := by
  unfold ixN
  rw [if_pos h1, if_pos (by omega)]
theorem E_decT {p : Prop} [Decidable p] (h : p) : decide p = true := decide_eq_true h
theorem E_decF {p : Prop} [Decidable p] (h : ¬ p) : decide p = false := decide_eq_false h
end
end Py

set_option Elab.async false
set_option linter.all false
set_option maxRecDepth 100000
set_option maxHeartbeats 4000000
noncomputable section
namespace Law
open PySem L2 Py
open PyProof.Rows (envOfC)
/-! ## the text by places -/
structure Tx (Γ : Gm) (mg : Str → Option Value) : Prop where
  c_BadRatio : mg "BadRatio" = some (.ref (Γ.cl 1))
  c_NestError : mg "NestError" = some (.ref (Γ.cl 0))
  fam_BadRatio : ∀ c ∈ [1], ∀ cv ∈ [Value.ref (Γ.cl 0), .type "ValueError"], PySem.W.kitOne Γ.K (.ref (Γ.cl c)) cv = some true
  i_BadRatio : ∀ p ∈ [(0, false), (1, true)], PySem.W.exmOne Γ.K (.ref (Γ.cl p.1)) (.ref (Γ.cl 1)) = some p.2
  k_ONE : mg "ONE" = some (.ref (Γ.cl 3))
  k_ZERO : mg "ZERO" = some (.ref (Γ.cl 2))
  n_ValueError : mg "ValueError" = none
  n_abs : mg "abs" = none
  n_bool : mg "bool" = none
  n_gcd : mg "gcd" = some (.builtin "math.gcd")
  n_int : mg "int" = none
  n_isinstance : mg "isinstance" = none
  n_lcm : mg "lcm" = some (.builtin "math.lcm")
  n_len : mg "len" = none
  n_list : mg "list" = none
  n_range : mg "range" = none
  n_tuple : mg "tuple" = none
  no_BadRatio_what : PySem.W.findIn Γ.K (.ref (Γ.cl 1)) "what" = some none
  v_ONE : ∀ H, IsD Γ H (.ref (Γ.cl 3)) (.tup [(.int 1), (.int 1)])
  v_ZERO : ∀ H, IsD Γ H (.ref (Γ.cl 2)) (.tup [(.int 0), (.int 1)])
  xf_BadRatio : XfC Γ.K (Γ.cl 1)
/-! is_whole -/
def m_is_whole : Py.Env → Out :=
  (sSeq ((sIf ((tfOr ((tfNot ((tfT ((eUn (dIsi "int") (eVar 0))))))) ((tfT ((eUn (dIsi "bool") (eVar 0))))))) ((sRet (eC (.bl false)))) (sNext))) ((sSeq ((sIf ((tfAnd ((tfB (eUn dNotN (eVar 1)))) ((tfB (eBin dLt (eVar 0) (eVar 1)))))) ((sRet (eC (.bl false)))) (sNext))) ((sRet ((eOr ((eUn dIsN (eVar 2))) ((eBin dLe (eVar 0) (eVar 2))))))))))
def f_is_whole : List D → Rf D := runF 3 m_is_whole
theorem sc_is_whole : FnScope ["thing", "low", "high"] ["thing", "low", "high"] (defScope st_is_whole) := ⟨rfl, rfl, rfl, by decide +kernel, rfl, by decide +kernel, by decide +kernel⟩
theorem d_is_whole {P : Program} {w : World} {Γ : Gm} {mg : Str → Option Value} {base : Heap} {f : Addr} {fd : FuncData} (F : FunD Γ.K "is_whole" "is_whole" (defArgs st_is_whole) (defBody st_is_whole) (defScope st_is_whole) [.non, .non] [] f fd) (T : Tx Γ mg) :
    FnOk P w Γ.K mg base (L2.CX P w) 1 f fd ["thing", "low", "high"] (spP Γ 3 f_is_whole) :=
  okP (dvs := [.non, .non]) (N := ["thing", "low", "high"]) (ps := ["thing", "low", "high"]) (k := 0) (st := st_is_whole) (x := "is_whole") (qual := "is_whole") [] m_is_whole F sc_is_whole (by decide) (fun cdv A outer s H E S0 hr => by
    exact ⟨_, (pss_cons (ps_if (PW.pt (pw_or (pt_not (pt_truth (pe_callB call_isi rfl T.n_isinstance bt_isinstance (pa_cons (pv 0) (pa_cons (pe_bltn (v := .ty "int") rfl T.n_int bt_int rfl) pa_nil))) (fun _ => rfl))) (pw_or1 (pt_truth (pe_callB call_isi rfl T.n_isinstance bt_isinstance (pa_cons (pv 0) (pa_cons (pe_bltn (v := .ty "bool") rfl T.n_bool bt_bool rfl) pa_nil))) (fun _ => rfl))))) (pss_one (ps_ret pe_bl)) pss_nil) (pss_cons (ps_if (PW.pt (pw_and (pt_cmp (pc_notN (pv 1)) rfl) (pw_and1 (pt_cmpR op_lt (pv 0) (pv 1) (nomark _))))) (pss_one (ps_ret pe_bl)) pss_nil) (pss_one (ps_ret (pe_or (pe_cmp (pc_isN (pv 2)) rfl) (pe_one (pe_cmpR op_le (pv 0) (pv 2) (nomark _)))))))),
      (sv_seq (sv_if (et_or (et_not (et_tru (ev_isi ev_var))) (et_tru (ev_isi ev_var))) (sv_ret (ev_bl _)) sv_next) (sv_seq (sv_if (et_and (et_B (ev_notN ev_var)) (et_test (ev_op opd_lt ev_var ev_var))) (sv_ret (ev_bl _)) sv_next) (sv_ret (ev_orV (ev_isN ev_var) (ev_op opd_le ev_var ev_var)))))⟩)
/-! is_sequence -/
def m_is_sequence : Py.Env → Out :=
  (sRet ((eUn (dIsi2 "list" "tuple") (eVar 0))))
def f_is_sequence : List D → Rf D := runF 1 m_is_sequence
theorem sc_is_sequence : FnScope ["thing"] ["thing"] (defScope st_is_sequence) := ⟨rfl, rfl, rfl, by decide +kernel, rfl, by decide +kernel, by decide +kernel⟩
theorem d_is_sequence {P : Program} {w : World} {Γ : Gm} {mg : Str → Option Value} {base : Heap} {f : Addr} {fd : FuncData} (F : FunD Γ.K "is_sequence" "is_sequence" (defArgs st_is_sequence) (defBody st_is_sequence) (defScope st_is_sequence) [] [] f fd) (T : Tx Γ mg) :
    FnOk P w Γ.K mg base (L2.CX P w) 1 f fd ["thing"] (spP Γ 1 f_is_sequence) :=
  okP (dvs := []) (N := ["thing"]) (ps := ["thing"]) (k := 0) (st := st_is_sequence) (x := "is_sequence") (qual := "is_sequence") [] m_is_sequence F sc_is_sequence (by decide) (fun cdv A outer s H E S0 hr => by
    exact ⟨_, (pss_one (ps_ret (pe_callB call_isiT rfl T.n_isinstance bt_isinstance (pa_cons (pv 0) (pa_cons (pe_tup (pa_cons (pe_bltn (v := .ty "list") rfl T.n_list bt_list rfl) (pa_cons (pe_bltn (v := .ty "tuple") rfl T.n_tuple bt_tuple rfl) pa_nil))) pa_nil))))),
      (sv_ret (ev_isi2 ev_var))⟩)
/-! is_ratio -/
def m_is_ratio : Py.Env → Out :=
  (sSeq ((sIf ((tfOr ((tfNot ((tfT ((eUn (dIsi "tuple") (eVar 0))))))) ((tfB (eBin dNe ((aF dLen ((aCons (eVar 0) aNil)))) (eC (.int 2))))))) ((sRet (eC (.bl false)))) (sNext))) ((sSeq ((sAsg (tupG 2 (consG (nmG 1) (consG (nmG 2) nilG))) (eVar 0))) ((sRet ((eAnd ((eCall 3 f_is_whole [.non, .non] ((aCons (eVar 1) aNil)))) ((eAnd ((eCall 3 f_is_whole [.non] ((aCons (eVar 2) (aCons (eC (.int 1)) aNil))))) ((eBin dEq ((aF dGcd ((aCons (eVar 1) (aCons (eVar 2) aNil))))) (eC (.int 1)))))))))))))
def f_is_ratio : List D → Rf D := runF 3 m_is_ratio
theorem sc_is_ratio : FnScope ["thing", "top", "bottom"] ["thing"] (defScope st_is_ratio) := ⟨rfl, rfl, rfl, by decide +kernel, rfl, by decide +kernel, by decide +kernel⟩
theorem d_is_ratio {P : Program} {w : World} {Γ : Gm} {mg : Str → Option Value} {base : Heap} {f : Addr} {fd : FuncData} (F : FunD Γ.K "is_ratio" "is_ratio" (defArgs st_is_ratio) (defBody st_is_ratio) (defScope st_is_ratio) [] [] f fd) (T : Tx Γ mg) (c_is_whole_1 : OkC P w Γ.K mg base "is_whole" [.non, .non] 1 (spP Γ 3 f_is_whole)) (c_is_whole_2 : OkC P w Γ.K mg base "is_whole" [.non] 1 (spP Γ 3 f_is_whole)) :
    FnOk P w Γ.K mg base (L2.CX P w) 2 f fd ["thing"] (spP Γ 1 f_is_ratio) :=
  okP (dvs := []) (N := ["thing", "top", "bottom"]) (ps := ["thing"]) (k := 1) (st := st_is_ratio) (x := "is_ratio") (qual := "is_ratio") [] m_is_ratio F sc_is_ratio (by decide) (fun cdv A outer s H E S0 hr => by
    have hr1 : Room 1 _ := hr.mono (by decide)
    exact ⟨_, (pss_cons (ps_if (PW.pt (pw_or (pt_not (pt_truth (pe_callB call_isi rfl T.n_isinstance bt_isinstance (pa_cons (pv 0) (pa_cons (pe_bltn (v := .ty "tuple") rfl T.n_tuple bt_tuple rfl) pa_nil))) (fun _ => rfl))) (pw_or1 (pt_cmpR (op_neD (hu64 hr)) (pe_callB call_len rfl T.n_len bt_len (pa_cons (pv 0) pa_nil)) pe_int (nomark _))))) (pss_one (ps_ret pe_bl)) pss_nil) (pss_cons (ps_asg (pv 0) (pg_tup rfl (pgs_cons (pg_name (i := 1) sc_is_ratio.nd rfl (by first | exact Or.inl rfl | exact Or.inr rfl)) (pgs_cons (pg_name (i := 2) sc_is_ratio.nd rfl (by first | exact Or.inl rfl | exact Or.inr rfl)) pgs_nil)))) (pss_one (ps_ret (pe_and (pe_callX c_is_whole_1 hr1 (takes_of rfl rfl rfl rfl) (pa_cons (pv 1) pa_nil)) (pe_and (pe_callX c_is_whole_2 hr1 (takes_of rfl rfl rfl rfl) (pa_cons (pv 2) (pa_cons pe_int pa_nil))) (pe_one (pe_cmpR (op_eqD (hu64 hr)) (pe_callBfun cr_gcd rfl T.n_gcd (pa_cons (pv 1) (pa_cons (pv 2) pa_nil))) pe_int (nomark _))))))))),
      (sv_seq (sv_if (et_or (et_not (et_tru (ev_isi ev_var))) (et_test (ev_op opd_ne (ev_cb cad_len (ea_cons ev_var ea_nil)) (ev_int _)))) (sv_ret (ev_bl _)) sv_next) (sv_seq (sv_asg (gv_tup (gs_cons gv_name (gs_cons gv_name gs_nil))) ev_var) (sv_ret (ev_andV (ev_call (ea_cons ev_var ea_nil) (fun _ => (.cons .non (.cons .non .nil)))) (ev_andV (ev_call (ea_cons ev_var (ea_cons (ev_int _) ea_nil)) (fun _ => (.cons .non .nil))) (ev_op opd_eq (ev_cb cad_gcd (ea_cons ev_var (ea_cons ev_var ea_nil))) (ev_int _)))))))⟩)
/-! lowest_terms -/
def m_lowest_terms : Py.Env → Out :=
  (sSeq ((sSet 2 ((aF dGcd ((aCons (eVar 0) (aCons (eVar 1) aNil))))))) ((sSeq ((sIf ((tfB (eBin dLt (eVar 1) (eC (.int 0))))) ((sSet 2 ((eUn dNeg (eVar 2))))) (sNext))) ((sRet ((aF dTup ((aCons ((eBin dFdiv (eVar 0) (eVar 2))) (aCons ((eBin dFdiv (eVar 1) (eVar 2))) aNil))))))))))
def f_lowest_terms : List D → Rf D := runF 3 m_lowest_terms
theorem sc_lowest_terms : FnScope ["top", "bottom", "common"] ["top", "bottom"] (defScope st_lowest_terms) := ⟨rfl, rfl, rfl, by decide +kernel, rfl, by decide +kernel, by decide +kernel⟩
theorem d_lowest_terms {P : Program} {w : World} {Γ : Gm} {mg : Str → Option Value} {base : Heap} {f : Addr} {fd : FuncData} (F : FunD Γ.K "lowest_terms" "lowest_terms" (defArgs st_lowest_terms) (defBody st_lowest_terms) (defScope st_lowest_terms) [] [] f fd) (T : Tx Γ mg) :
    FnOk P w Γ.K mg base (L2.CX P w) 1 f fd ["top", "bottom"] (spP Γ 2 f_lowest_terms) :=
  okP (dvs := []) (N := ["top", "bottom", "common"]) (ps := ["top", "bottom"]) (k := 0) (st := st_lowest_terms) (x := "lowest_terms") (qual := "lowest_terms") [] m_lowest_terms F sc_lowest_terms (by decide) (fun cdv A outer s H E S0 hr => by
    exact ⟨_, (pss_cons (ps_set (i := 2) sc_lowest_terms.nd rfl (by first | exact Or.inl rfl | exact Or.inr rfl) (pe_callBfun cr_gcd rfl T.n_gcd (pa_cons (pv 0) (pa_cons (pv 1) pa_nil)))) (pss_cons (ps_if (pt_cmpR op_lt (pv 1) pe_int (nomark _)) (pss_one (ps_set (i := 2) sc_lowest_terms.nd rfl (by first | exact Or.inl rfl | exact Or.inr rfl) (pe_un un_neg (pv 2)))) pss_nil) (pss_one (ps_ret (pe_tup (pa_cons (pe_op opx_fdiv (pv 0) (pv 2)) (pa_cons (pe_op opx_fdiv (pv 1) (pv 2)) pa_nil))))))),
      (sv_seq (sv_set (ev_cb cad_gcd (ea_cons ev_var (ea_cons ev_var ea_nil)))) (sv_seq (sv_if (et_test (ev_op opd_lt ev_var (ev_int _))) (sv_set (ev_un und_neg ev_var)) sv_next) (sv_ret (ev_tup (ea_cons (ev_op opd_fdiv ev_var ev_var) (ea_cons (ev_op opd_fdiv ev_var ev_var) ea_nil))))))⟩)
/-! make_ratio -/
def m_make_ratio : Py.Env → Out :=
  (sSeq ((sIf ((tfNot ((tfT ((eCall 3 f_is_whole [.non, .non] ((aCons (eVar 0) aNil)))))))) ((sRaise1 1 "what" (eC (.str "top")))) (sNext))) ((sSeq ((sIf ((tfOr ((tfNot ((tfT ((eCall 3 f_is_whole [.non, .non] ((aCons (eVar 1) aNil)))))))) ((tfB (eBin dEq (eVar 1) (eC (.int 0))))))) ((sRaise1 1 "what" (eC (.str "bottom")))) (sNext))) ((sRet ((eCall 2 f_lowest_terms [] ((aCons (eVar 0) (aCons (eVar 1) aNil))))))))))
def f_make_ratio : List D → Rf D := runF 2 m_make_ratio
theorem sc_make_ratio : FnScope ["top", "bottom"] ["top", "bottom"] (defScope st_make_ratio) := ⟨rfl, rfl, rfl, by decide +kernel, rfl, by decide +kernel, by decide +kernel⟩
theorem d_make_ratio {P : Program} {w : World} {Γ : Gm} {mg : Str → Option Value} {base : Heap} {f : Addr} {fd : FuncData} (F : FunD Γ.K "make_ratio" "make_ratio" (defArgs st_make_ratio) (defBody st_make_ratio) (defScope st_make_ratio) [(.int 1)] [] f fd) (T : Tx Γ mg) (c_is_whole_1 : OkC P w Γ.K mg base "is_whole" [.non, .non] 1 (spP Γ 3 f_is_whole)) (c_lowest_terms_2 : OkC P w Γ.K mg base "lowest_terms" [] 1 (spP Γ 2 f_lowest_terms)) (x_BadRatio : ExcI P w Γ.K mg base "BadRatio" (Γ.cl 1) (spI1 (Γ.cl 1) "what")) :
    FnOk P w Γ.K mg base (L2.CX P w) 3 f fd ["top", "bottom"] (spP Γ 2 f_make_ratio) :=
  okP (dvs := [(.int 1)]) (N := ["top", "bottom"]) (ps := ["top", "bottom"]) (k := 2) (st := st_make_ratio) (x := "make_ratio") (qual := "make_ratio") [] m_make_ratio F sc_make_ratio (by decide) (fun cdv A outer s H E S0 hr => by
    have hr1 : Room 1 _ := hr.mono (by decide)
    have hr2 : Room 2 _ := hr.mono (by decide)
    exact ⟨_, (pss_cons (ps_if (pt_not (pt_truth (pe_callX c_is_whole_1 hr1 (takes_of rfl rfl rfl rfl) (pa_cons (pv 0) pa_nil)) (fun _ => rfl))) (pss_one (ps_raiseX rfl x_BadRatio hr2 (takes_of rfl rfl rfl rfl) (pa_cons pe_str pa_nil))) pss_nil) (pss_cons (ps_if (PW.pt (pw_or (pt_not (pt_truth (pe_callX c_is_whole_1 hr1 (takes_of rfl rfl rfl rfl) (pa_cons (pv 1) pa_nil)) (fun _ => rfl))) (pw_or1 (pt_cmpR (op_eqD (hu64 hr)) (pv 1) pe_int (nomark _))))) (pss_one (ps_raiseX rfl x_BadRatio hr2 (takes_of rfl rfl rfl rfl) (pa_cons pe_str pa_nil))) pss_nil) (pss_one (ps_ret (pe_callX c_lowest_terms_2 hr1 (takes_of rfl rfl rfl rfl) (pa_cons (pv 0) (pa_cons (pv 1) pa_nil))))))),
      (sv_seq (sv_if (et_not (et_tru (ev_call (ea_cons ev_var ea_nil) (fun _ => (.cons .non (.cons .non .nil)))))) (sv_raise1 (ev_str _) rfl) sv_next) (sv_seq (sv_if (et_or (et_not (et_tru (ev_call (ea_cons ev_var ea_nil) (fun _ => (.cons .non (.cons .non .nil)))))) (et_test (ev_op opd_eq ev_var (ev_int _)))) (sv_raise1 (ev_str _) rfl) sv_next) (sv_ret (ev_call (ea_cons ev_var (ea_cons ev_var ea_nil)) nil_ds))))⟩)
/-! add_ratios -/
def m_add_ratios : Py.Env → Out :=
  (sRet ((eCall 2 f_lowest_terms [] ((aCons ((eBin dAdd ((eBin dMul ((eBin dIx (eVar 0) (eC (.int 0)))) ((eBin dIx (eVar 1) (eC (.int 1)))))) ((eBin dMul ((eBin dIx (eVar 1) (eC (.int 0)))) ((eBin dIx (eVar 0) (eC (.int 1)))))))) (aCons ((eBin dMul ((eBin dIx (eVar 0) (eC (.int 1)))) ((eBin dIx (eVar 1) (eC (.int 1)))))) aNil))))))
def f_add_ratios : List D → Rf D := runF 2 m_add_ratios
theorem sc_add_ratios : FnScope ["one", "other"] ["one", "other"] (defScope st_add_ratios) := ⟨rfl, rfl, rfl, by decide +kernel, rfl, by decide +kernel, by decide +kernel⟩
theorem d_add_ratios {P : Program} {w : World} {Γ : Gm} {mg : Str → Option Value} {base : Heap} {f : Addr} {fd : FuncData} (F : FunD Γ.K "add_ratios" "add_ratios" (defArgs st_add_ratios) (defBody st_add_ratios) (defScope st_add_ratios) [] [] f fd) (T : Tx Γ mg) (c_lowest_terms_2 : OkC P w Γ.K mg base "lowest_terms" [] 1 (spP Γ 2 f_lowest_terms)) :
    FnOk P w Γ.K mg base (L2.CX P w) 2 f fd ["one", "other"] (spP Γ 2 f_add_ratios) :=
  okP (dvs := []) (N := ["one", "other"]) (ps := ["one", "other"]) (k := 1) (st := st_add_ratios) (x := "add_ratios") (qual := "add_ratios") [] m_add_ratios F sc_add_ratios (by decide) (fun cdv A outer s H E S0 hr => by
    have hr1 : Room 1 _ := hr.mono (by decide)
    exact ⟨_, (pss_one (ps_ret (pe_callX c_lowest_terms_2 hr1 (takes_of rfl rfl rfl rfl) (pa_cons (pe_op opx_add (pe_op opx_mul (pe_ix ix_seq (pv 0) pe_int (fun _ _ => rfl)) (pe_ix ix_seq (pv 1) pe_int (fun _ _ => rfl))) (pe_op opx_mul (pe_ix ix_seq (pv 1) pe_int (fun _ _ => rfl)) (pe_ix ix_seq (pv 0) pe_int (fun _ _ => rfl)))) (pa_cons (pe_op opx_mul (pe_ix ix_seq (pv 0) pe_int (fun _ _ => rfl)) (pe_ix ix_seq (pv 1) pe_int (fun _ _ => rfl))) pa_nil))))),
      (sv_ret (ev_call (ea_cons (ev_op opd_add (ev_op opd_mul (ev_op opd_ix ev_var (ev_int _)) (ev_op opd_ix ev_var (ev_int _))) (ev_op opd_mul (ev_op opd_ix ev_var (ev_int _)) (ev_op opd_ix ev_var (ev_int _)))) (ea_cons (ev_op opd_mul (ev_op opd_ix ev_var (ev_int _)) (ev_op opd_ix ev_var (ev_int _))) ea_nil)) nil_ds))⟩)
/-! subtract_ratios -/
def m_subtract_ratios : Py.Env → Out :=
  (sRet ((eCall 2 f_lowest_terms [] ((aCons ((eBin dSub ((eBin dMul ((eBin dIx (eVar 0) (eC (.int 0)))) ((eBin dIx (eVar 1) (eC (.int 1)))))) ((eBin dMul ((eBin dIx (eVar 1) (eC (.int 0)))) ((eBin dIx (eVar 0) (eC (.int 1)))))))) (aCons ((eBin dMul ((eBin dIx (eVar 0) (eC (.int 1)))) ((eBin dIx (eVar 1) (eC (.int 1)))))) aNil))))))
def f_subtract_ratios : List D → Rf D := runF 2 m_subtract_ratios
theorem sc_subtract_ratios : FnScope ["one", "other"] ["one", "other"] (defScope st_subtract_ratios) := ⟨rfl, rfl, rfl, by decide +kernel, rfl, by decide +kernel, by decide +kernel⟩
theorem d_subtract_ratios {P : Program} {w : World} {Γ : Gm} {mg : Str → Option Value} {base : Heap} {f : Addr} {fd : FuncData} (F : FunD Γ.K "subtract_ratios" "subtract_ratios" (defArgs st_subtract_ratios) (defBody st_subtract_ratios) (defScope st_subtract_ratios) [] [] f fd) (T : Tx Γ mg) (c_lowest_terms_2 : OkC P w Γ.K mg base "lowest_terms" [] 1 (spP Γ 2 f_lowest_terms)) :
    FnOk P w Γ.K mg base (L2.CX P w) 2 f fd ["one", "other"] (spP Γ 2 f_subtract_ratios) :=
  okP (dvs := []) (N := ["one", "other"]) (ps := ["one", "other"]) (k := 1) (st := st_subtract_ratios) (x := "subtract_ratios") (qual := "subtract_ratios") [] m_subtract_ratios F sc_subtract_ratios (by decide) (fun cdv A outer s H E S0 hr => by
    have hr1 : Room 1 _ := hr.mono (by decide)
    exact ⟨_, (pss_one (ps_ret (pe_callX c_lowest_terms_2 hr1 (takes_of rfl rfl rfl rfl) (pa_cons (pe_op op_sub (pe_op opx_mul (pe_ix ix_seq (pv 0) pe_int (fun _ _ => rfl)) (pe_ix ix_seq (pv 1) pe_int (fun _ _ => rfl))) (pe_op opx_mul (pe_ix ix_seq (pv 1) pe_int (fun _ _ => rfl)) (pe_ix ix_seq (pv 0) pe_int (fun _ _ => rfl)))) (pa_cons (pe_op opx_mul (pe_ix ix_seq (pv 0) pe_int (fun _ _ => rfl)) (pe_ix ix_seq (pv 1) pe_int (fun _ _ => rfl))) pa_nil))))),
      (sv_ret (ev_call (ea_cons (ev_op opd_sub (ev_op opd_mul (ev_op opd_ix ev_var (ev_int _)) (ev_op opd_ix ev_var (ev_int _))) (ev_op opd_mul (ev_op opd_ix ev_var (ev_int _)) (ev_op opd_ix ev_var (ev_int _)))) (ea_cons (ev_op opd_mul (ev_op opd_ix ev_var (ev_int _)) (ev_op opd_ix ev_var (ev_int _))) ea_nil)) nil_ds))⟩)
/-! multiply_ratios -/
def m_multiply_ratios : Py.Env → Out :=
  (sRet ((eCall 2 f_lowest_terms [] ((aCons ((eBin dMul ((eBin dIx (eVar 0) (eC (.int 0)))) ((eBin dIx (eVar 1) (eC (.int 0)))))) (aCons ((eBin dMul ((eBin dIx (eVar 0) (eC (.int 1)))) ((eBin dIx (eVar 1) (eC (.int 1)))))) aNil))))))
def f_multiply_ratios : List D → Rf D := runF 2 m_multiply_ratios
theorem sc_multiply_ratios : FnScope ["one", "other"] ["one", "other"] (defScope st_multiply_ratios) := ⟨rfl, rfl, rfl, by decide +kernel, rfl, by decide +kernel, by decide +kernel⟩
theorem d_multiply_ratios {P : Program} {w : World} {Γ : Gm} {mg : Str → Option Value} {base : Heap} {f : Addr} {fd : FuncData} (F : FunD Γ.K "multiply_ratios" "multiply_ratios" (defArgs st_multiply_ratios) (defBody st_multiply_ratios) (defScope st_multiply_ratios) [] [] f fd) (T : Tx Γ mg) (c_lowest_terms_2 : OkC P w Γ.K mg base "lowest_terms" [] 1 (spP Γ 2 f_lowest_terms)) :
    FnOk P w Γ.K mg base (L2.CX P w) 2 f fd ["one", "other"] (spP Γ 2 f_multiply_ratios) :=
  okP (dvs := []) (N := ["one", "other"]) (ps := ["one", "other"]) (k := 1) (st := st_multiply_ratios) (x := "multiply_ratios") (qual := "multiply_ratios") [] m_multiply_ratios F sc_multiply_ratios (by decide) (fun cdv A outer s H E S0 hr => by
    have hr1 : Room 1 _ := hr.mono (by decide)
    exact ⟨_, (pss_one (ps_ret (pe_callX c_lowest_terms_2 hr1 (takes_of rfl rfl rfl rfl) (pa_cons (pe_op opx_mul (pe_ix ix_seq (pv 0) pe_int (fun _ _ => rfl)) (pe_ix ix_seq (pv 1) pe_int (fun _ _ => rfl))) (pa_cons (pe_op opx_mul (pe_ix ix_seq (pv 0) pe_int (fun _ _ => rfl)) (pe_ix ix_seq (pv 1) pe_int (fun _ _ => rfl))) pa_nil))))),
      (sv_ret (ev_call (ea_cons (ev_op opd_mul (ev_op opd_ix ev_var (ev_int _)) (ev_op opd_ix ev_var (ev_int _))) (ea_cons (ev_op opd_mul (ev_op opd_ix ev_var (ev_int _)) (ev_op opd_ix ev_var (ev_int _))) ea_nil)) nil_ds))⟩)
/-! divide_ratios -/
def m_divide_ratios : Py.Env → Out :=
  (sSeq ((sIf ((tfB (eBin dEq ((eBin dIx (eVar 1) (eC (.int 0)))) (eC (.int 0))))) ((sRaise1 1 "what" (eC (.str "zero")))) (sNext))) ((sRet ((eCall 2 f_lowest_terms [] ((aCons ((eBin dMul ((eBin dIx (eVar 0) (eC (.int 0)))) ((eBin dIx (eVar 1) (eC (.int 1)))))) (aCons ((eBin dMul ((eBin dIx (eVar 0) (eC (.int 1)))) ((eBin dIx (eVar 1) (eC (.int 0)))))) aNil))))))))
def f_divide_ratios : List D → Rf D := runF 2 m_divide_ratios
theorem sc_divide_ratios : FnScope ["one", "other"] ["one", "other"] (defScope st_divide_ratios) := ⟨rfl, rfl, rfl, by decide +kernel, rfl, by decide +kernel, by decide +kernel⟩
theorem d_divide_ratios {P : Program} {w : World} {Γ : Gm} {mg : Str → Option Value} {base : Heap} {f : Addr} {fd : FuncData} (F : FunD Γ.K "divide_ratios" "divide_ratios" (defArgs st_divide_ratios) (defBody st_divide_ratios) (defScope st_divide_ratios) [] [] f fd) (T : Tx Γ mg) (c_lowest_terms_2 : OkC P w Γ.K mg base "lowest_terms" [] 1 (spP Γ 2 f_lowest_terms)) (x_BadRatio : ExcI P w Γ.K mg base "BadRatio" (Γ.cl 1) (spI1 (Γ.cl 1) "what")) :
    FnOk P w Γ.K mg base (L2.CX P w) 3 f fd ["one", "other"] (spP Γ 2 f_divide_ratios) :=
  okP (dvs := []) (N := ["one", "other"]) (ps := ["one", "other"]) (k := 2) (st := st_divide_ratios) (x := "divide_ratios") (qual := "divide_ratios") [] m_divide_ratios F sc_divide_ratios (by decide) (fun cdv A outer s H E S0 hr => by
    have hr1 : Room 1 _ := hr.mono (by decide)
    have hr2 : Room 2 _ := hr.mono (by decide)
    exact ⟨_, (pss_cons (ps_if (pt_cmpR (op_eqD (hu64 hr)) (pe_ix ix_seq (pv 1) pe_int (fun _ _ => rfl)) pe_int (nomark _)) (pss_one (ps_raiseX rfl x_BadRatio hr2 (takes_of rfl rfl rfl rfl) (pa_cons pe_str pa_nil))) pss_nil) (pss_one (ps_ret (pe_callX c_lowest_terms_2 hr1 (takes_of rfl rfl rfl rfl) (pa_cons (pe_op opx_mul (pe_ix ix_seq (pv 0) pe_int (fun _ _ => rfl)) (pe_ix ix_seq (pv 1) pe_int (fun _ _ => rfl))) (pa_cons (pe_op opx_mul (pe_ix ix_seq (pv 0) pe_int (fun _ _ => rfl)) (pe_ix ix_seq (pv 1) pe_int (fun _ _ => rfl))) pa_nil)))))),
      (sv_seq (sv_if (et_test (ev_op opd_eq (ev_op opd_ix ev_var (ev_int _)) (ev_int _))) (sv_raise1 (ev_str _) rfl) sv_next) (sv_ret (ev_call (ea_cons (ev_op opd_mul (ev_op opd_ix ev_var (ev_int _)) (ev_op opd_ix ev_var (ev_int _))) (ea_cons (ev_op opd_mul (ev_op opd_ix ev_var (ev_int _)) (ev_op opd_ix ev_var (ev_int _))) ea_nil)) nil_ds)))⟩)
/-! compare_ratios -/
def m_compare_ratios : Py.Env → Out :=
  (sSeq ((sSet 2 ((eBin dMul ((eBin dIx (eVar 0) (eC (.int 0)))) ((eBin dIx (eVar 1) (eC (.int 1)))))))) ((sSeq ((sSet 3 ((eBin dMul ((eBin dIx (eVar 1) (eC (.int 0)))) ((eBin dIx (eVar 0) (eC (.int 1)))))))) ((sSeq ((sIf ((tfB (eBin dLt (eVar 2) (eVar 3)))) ((sRet ((eUn dNeg (eC (.int 1)))))) (sNext))) ((sRet ((eIf ((tfB (eBin dGt (eVar 2) (eVar 3)))) (eC (.int 1)) (eC (.int 0)))))))))))
def f_compare_ratios : List D → Rf D := runF 4 m_compare_ratios
theorem sc_compare_ratios : FnScope ["one", "other", "left", "right"] ["one", "other"] (defScope st_compare_ratios) := ⟨rfl, rfl, rfl, by decide +kernel, rfl, by decide +kernel, by decide +kernel⟩
theorem d_compare_ratios {P : Program} {w : World} {Γ : Gm} {mg : Str → Option Value} {base : Heap} {f : Addr} {fd : FuncData} (F : FunD Γ.K "compare_ratios" "compare_ratios" (defArgs st_compare_ratios) (defBody st_compare_ratios) (defScope st_compare_ratios) [] [] f fd) (T : Tx Γ mg) :
    FnOk P w Γ.K mg base (L2.CX P w) 1 f fd ["one", "other"] (spP Γ 2 f_compare_ratios) :=
  okP (dvs := []) (N := ["one", "other", "left", "right"]) (ps := ["one", "other"]) (k := 0) (st := st_compare_ratios) (x := "compare_ratios") (qual := "compare_ratios") [] m_compare_ratios F sc_compare_ratios (by decide) (fun cdv A outer s H E S0 hr => by
    exact ⟨_, (pss_cons (ps_set (i := 2) sc_compare_ratios.nd rfl (by first | exact Or.inl rfl | exact Or.inr rfl) (pe_op opx_mul (pe_ix ix_seq (pv 0) pe_int (fun _ _ => rfl)) (pe_ix ix_seq (pv 1) pe_int (fun _ _ => rfl)))) (pss_cons (ps_set (i := 3) sc_compare_ratios.nd rfl (by first | exact Or.inl rfl | exact Or.inr rfl) (pe_op opx_mul (pe_ix ix_seq (pv 1) pe_int (fun _ _ => rfl)) (pe_ix ix_seq (pv 0) pe_int (fun _ _ => rfl)))) (pss_cons (ps_if (pt_cmpR op_lt (pv 2) (pv 3) (nomark _)) (pss_one (ps_ret (pe_un un_neg pe_int))) pss_nil) (pss_one (ps_ret (pe_ifExp (pt_cmpR op_gt (pv 2) (pv 3) (nomark _)) pe_int pe_int)))))),
      (sv_seq (sv_set (ev_op opd_mul (ev_op opd_ix ev_var (ev_int _)) (ev_op opd_ix ev_var (ev_int _)))) (sv_seq (sv_set (ev_op opd_mul (ev_op opd_ix ev_var (ev_int _)) (ev_op opd_ix ev_var (ev_int _)))) (sv_seq (sv_if (et_test (ev_op opd_lt ev_var ev_var)) (sv_ret (ev_un und_neg (ev_int _))) sv_next) (sv_ret (ev_if (et_test (ev_op opd_gt ev_var ev_var)) (ev_int _) (ev_int _))))))⟩)
/-! sum_ratios -/
def l1_sum_ratios : Py.Env → Out :=
  (sSet 1 ((eCall 2 f_add_ratios [] ((aCons (eVar 1) (aCons (eVar 2) aNil))))))
def m_sum_ratios : Py.Env → Out :=
  (sSeq ((sSet 1 (eC (.tup [(.int 0), (.int 1)])))) ((sSeq ((sFor (iSeqM (eVar 0)) (nmG 2) (l1_sum_ratios))) ((sRet (eVar 1))))))
def f_sum_ratios : List D → Rf D := runF 3 m_sum_ratios
theorem sc_sum_ratios : FnScope ["row", "total", "one"] ["row"] (defScope st_sum_ratios) := ⟨rfl, rfl, rfl, by decide +kernel, rfl, by decide +kernel, by decide +kernel⟩
theorem d_sum_ratios {P : Program} {w : World} {Γ : Gm} {mg : Str → Option Value} {base : Heap} {f : Addr} {fd : FuncData} (F : FunD Γ.K "sum_ratios" "sum_ratios" (defArgs st_sum_ratios) (defBody st_sum_ratios) (defScope st_sum_ratios) [] [] f fd) (T : Tx Γ mg) (c_add_ratios_2 : OkC P w Γ.K mg base "add_ratios" [] 2 (spP Γ 2 f_add_ratios)) :
    FnOk P w Γ.K mg base (L2.CX P w) 3 f fd ["row"] (spP Γ 1 f_sum_ratios) :=
  okP (dvs := []) (N := ["row", "total", "one"]) (ps := ["row"]) (k := 2) (st := st_sum_ratios) (x := "sum_ratios") (qual := "sum_ratios") [] m_sum_ratios F sc_sum_ratios (by decide) (fun cdv A outer s H E S0 hr => by
    have hr2 : Room 2 _ := hr.mono (by decide)
    exact ⟨_, (pss_cons (ps_set (i := 1) sc_sum_ratios.nd rfl (by first | exact Or.inl rfl | exact Or.inr rfl) (pe_glob (v := .ref _) rfl T.k_ZERO rfl)) (pss_cons (ps_for (passes_of rfl) rfl (pi_seq (pv 0)) (pg_name (i := 2) sc_sum_ratios.nd rfl (by first | exact Or.inl rfl | exact Or.inr rfl)) (pss_one (ps_set (i := 1) sc_sum_ratios.nd rfl (by first | exact Or.inl rfl | exact Or.inr rfl) (pe_callX c_add_ratios_2 hr2 (takes_of rfl rfl rfl rfl) (pa_cons (pv 1) (pa_cons (pv 2) pa_nil)))))) (pss_one (ps_ret (pv 1))))),
      (sv_seq (sv_set (ev_c T.v_ZERO)) (sv_seq (sv_for (iv_seq ev_var) gv_name (sv_set (ev_call (ea_cons ev_var (ea_cons ev_var ea_nil)) nil_ds))) (sv_ret ev_var)))⟩)
/-! floor_ratio -/
def m_floor_ratio : Py.Env → Out :=
  (sRet ((eBin dFdiv ((eBin dIx (eVar 0) (eC (.int 0)))) ((eBin dIx (eVar 0) (eC (.int 1)))))))
def f_floor_ratio : List D → Rf D := runF 1 m_floor_ratio
theorem sc_floor_ratio : FnScope ["one"] ["one"] (defScope st_floor_ratio) := ⟨rfl, rfl, rfl, by decide +kernel, rfl, by decide +kernel, by decide +kernel⟩
theorem d_floor_ratio {P : Program} {w : World} {Γ : Gm} {mg : Str → Option Value} {base : Heap} {f : Addr} {fd : FuncData} (F : FunD Γ.K "floor_ratio" "floor_ratio" (defArgs st_floor_ratio) (defBody st_floor_ratio) (defScope st_floor_ratio) [] [] f fd) (T : Tx Γ mg) :
    FnOk P w Γ.K mg base (L2.CX P w) 1 f fd ["one"] (spP Γ 1 f_floor_ratio) :=
  okP (dvs := []) (N := ["one"]) (ps := ["one"]) (k := 0) (st := st_floor_ratio) (x := "floor_ratio") (qual := "floor_ratio") [] m_floor_ratio F sc_floor_ratio (by decide) (fun cdv A outer s H E S0 hr => by
    exact ⟨_, (pss_one (ps_ret (pe_op opx_fdiv (pe_ix ix_seq (pv 0) pe_int (fun _ _ => rfl)) (pe_ix ix_seq (pv 0) pe_int (fun _ _ => rfl))))),
      (sv_ret (ev_op opd_fdiv (ev_op opd_ix ev_var (ev_int _)) (ev_op opd_ix ev_var (ev_int _))))⟩)
/-! common_bottom -/
def l1_common_bottom : Py.Env → Out :=
  (sSet 1 ((aF dLcm ((aCons (eVar 1) (aCons ((eBin dIx (eVar 2) (eC (.int 1)))) aNil))))))
def m_common_bottom : Py.Env → Out :=
  (sSeq ((sSet 1 (eC (.int 1)))) ((sSeq ((sFor (iSeqM (eVar 0)) (nmG 2) (l1_common_bottom))) ((sRet (eVar 1))))))
def f_common_bottom : List D → Rf D := runF 3 m_common_bottom
theorem sc_common_bottom : FnScope ["row", "bottom", "one"] ["row"] (defScope st_common_bottom) := ⟨rfl, rfl, rfl, by decide +kernel, rfl, by decide +kernel, by decide +kernel⟩
theorem d_common_bottom {P : Program} {w : World} {Γ : Gm} {mg : Str → Option Value} {base : Heap} {f : Addr} {fd : FuncData} (F : FunD Γ.K "common_bottom" "common_bottom" (defArgs st_common_bottom) (defBody st_common_bottom) (defScope st_common_bottom) [] [] f fd) (T : Tx Γ mg) :
    FnOk P w Γ.K mg base (L2.CX P w) 1 f fd ["row"] (spP Γ 1 f_common_bottom) :=
  okP (dvs := []) (N := ["row", "bottom", "one"]) (ps := ["row"]) (k := 0) (st := st_common_bottom) (x := "common_bottom") (qual := "common_bottom") [] m_common_bottom F sc_common_bottom (by decide) (fun cdv A outer s H E S0 hr => by
    exact ⟨_, (pss_cons (ps_set (i := 1) sc_common_bottom.nd rfl (by first | exact Or.inl rfl | exact Or.inr rfl) pe_int) (pss_cons (ps_for (passes_of rfl) rfl (pi_seq (pv 0)) (pg_name (i := 2) sc_common_bottom.nd rfl (by first | exact Or.inl rfl | exact Or.inr rfl)) (pss_one (ps_set (i := 1) sc_common_bottom.nd rfl (by first | exact Or.inl rfl | exact Or.inr rfl) (pe_callBfun cr_lcm rfl T.n_lcm (pa_cons (pv 1) (pa_cons (pe_ix ix_seq (pv 2) pe_int (fun _ _ => rfl)) pa_nil)))))) (pss_one (ps_ret (pv 1))))),
      (sv_seq (sv_set (ev_int _)) (sv_seq (sv_for (iv_seq ev_var) gv_name (sv_set (ev_cb cad_lcm (ea_cons ev_var (ea_cons (ev_op opd_ix ev_var (ev_int _)) ea_nil))))) (sv_ret ev_var)))⟩)
/-! whole_power -/
def t1_whole_power : Py.Env → Rs Bool :=
  (tfB (eBin dGt (eVar 4) (eC (.int 0))))
def l2_whole_power : Py.Env → Out :=
  (sSeq ((sIf ((tfT ((eBin dBAnd (eVar 4) (eC (.int 1)))))) ((sSet 2 ((eBin dMul (eVar 2) (eVar 3))))) (sNext))) ((sSeq ((sSet 4 ((eBin dShr (eVar 4) (eC (.int 1)))))) ((sIf ((tfB (eBin dGt (eVar 4) (eC (.int 0))))) ((sSet 3 ((eBin dMul (eVar 3) (eVar 3))))) (sNext))))))
def m_whole_power : Py.Env → Out :=
  (sSeq ((sSet 2 (eC (.int 1)))) ((sSeq ((sSet 3 (eVar 0))) ((sSeq ((sSet 4 (eVar 1))) ((sSeq ((sWhile (t1_whole_power) (l2_whole_power))) ((sRet (eVar 2))))))))))
def f_whole_power : List D → Rf D := runF 5 m_whole_power
theorem sc_whole_power : FnScope ["base", "exponent", "told", "square", "left"] ["base", "exponent"] (defScope st_whole_power) := ⟨rfl, rfl, rfl, by decide +kernel, rfl, by decide +kernel, by decide +kernel⟩
theorem d_whole_power {P : Program} {w : World} {Γ : Gm} {mg : Str → Option Value} {base : Heap} {f : Addr} {fd : FuncData} (F : FunD Γ.K "whole_power" "whole_power" (defArgs st_whole_power) (defBody st_whole_power) (defScope st_whole_power) [] [] f fd) (T : Tx Γ mg) :
    FnOk P w Γ.K mg base (L2.CX P w) 1 f fd ["base", "exponent"] (spP Γ 2 f_whole_power) :=
  okP (dvs := []) (N := ["base", "exponent", "told", "square", "left"]) (ps := ["base", "exponent"]) (k := 0) (st := st_whole_power) (x := "whole_power") (qual := "whole_power") [] m_whole_power F sc_whole_power (by decide) (fun cdv A outer s H E S0 hr => by
    exact ⟨_, (pss_cons (ps_set (i := 2) sc_whole_power.nd rfl (by first | exact Or.inl rfl | exact Or.inr rfl) pe_int) (pss_cons (ps_set (i := 3) sc_whole_power.nd rfl (by first | exact Or.inl rfl | exact Or.inr rfl) (pv 0)) (pss_cons (ps_set (i := 4) sc_whole_power.nd rfl (by first | exact Or.inl rfl | exact Or.inr rfl) (pv 1)) (pss_cons (ps_while (passes_of rfl) (pt_cmpR op_gt (pv 4) pe_int (nomark _)) (pss_cons (ps_if (pt_truth (pe_op op_and (pv 4) pe_int) (fun _ => rfl)) (pss_one (ps_set (i := 2) sc_whole_power.nd rfl (by first | exact Or.inl rfl | exact Or.inr rfl) (pe_op opx_mul (pv 2) (pv 3)))) pss_nil) (pss_cons (ps_set (i := 4) sc_whole_power.nd rfl (by first | exact Or.inl rfl | exact Or.inr rfl) (pe_op op_shr (pv 4) pe_int)) (pss_one (ps_if (pt_cmpR op_gt (pv 4) pe_int (nomark _)) (pss_one (ps_set (i := 3) sc_whole_power.nd rfl (by first | exact Or.inl rfl | exact Or.inr rfl) (pe_op opx_mul (pv 3) (pv 3)))) pss_nil))))) (pss_one (ps_ret (pv 2))))))),
      (sv_seq (sv_set (ev_int _)) (sv_seq (sv_set ev_var) (sv_seq (sv_set ev_var) (sv_seq (sv_while (et_test (ev_op opd_gt ev_var (ev_int _))) (sv_seq (sv_if (et_tru (ev_op opd_band ev_var (ev_int _))) (sv_set (ev_op opd_mul ev_var ev_var)) sv_next) (sv_seq (sv_set (ev_op opd_shr ev_var (ev_int _))) (sv_if (et_test (ev_op opd_gt ev_var (ev_int _))) (sv_set (ev_op opd_mul ev_var ev_var)) sv_next)))) (sv_ret ev_var)))))⟩)
/-! _law_hand -/
def l1__law_hand : Py.Env → Out :=
  (sSeq ((sSet 1 ((eBin dMod ((aF dInt ((aCons ((eBin dAdd ((eBin dMul (eVar 1) (eC (.int 1723)))) ((aF dInt ((aCons (eVar 3) aNil)))))) aNil)))) (eC (.int 2147483549)))))) ((sApp 2 ((aF dAbs ((aCons ((aF dInt ((aCons (eVar 3) aNil)))) aNil)))))))
def m__law_hand : Py.Env → Out :=
  (sSeqN ((sSet 1 ((eBin dAdd ((aF dLen ((aCons (eVar 0) aNil)))) (eC (.int 41)))))) ((sSeqN ((sSet 2 ((aF dLst (aNil))))) ((sSeqN ((sFor (iSeqM (eVar 0)) (nmG 3) (l1__law_hand))) ((sRet (aF dLst ((aCons (eMove 2) (aCons (eC (.int 0)) (aCons (eC (.int 0)) (aCons (eVar 1) aNil)))))))))))))
def f__law_hand : List D → Rf D := runN 4 m__law_hand
theorem sc__law_hand : FnScope ["script", "total", "cells", "cell"] ["script"] (defScope st__law_hand) := ⟨rfl, rfl, rfl, by decide +kernel, rfl, by decide +kernel, by decide +kernel⟩
theorem d__law_hand {P : Program} {w : World} {Γ : Gm} {mg : Str → Option Value} {base : Heap} {f : Addr} {fd : FuncData} (F : FunD Γ.K "_law_hand" "_law_hand" (defArgs st__law_hand) (defBody st__law_hand) (defScope st__law_hand) [] [] f fd) (T : Tx Γ mg) :
    FnOk P w Γ.K mg base (L2.CX P w) 1 f fd ["script"] (spN Γ 1 f__law_hand) :=
  okN (dvs := []) (N := ["script", "total", "cells", "cell"]) (ps := ["script"]) (k := 0) (st := st__law_hand) (x := "_law_hand") (qual := "_law_hand") [2] m__law_hand F sc__law_hand (by decide) (fun cdv A outer s H E S0 hr => by
    exact ⟨_, (pss_cons (ps_set (i := 1) sc__law_hand.nd rfl (by first | exact Or.inl rfl | exact Or.inr rfl) (pe_op opx_add (pe_callB call_len rfl T.n_len bt_len (pa_cons (pv 0) pa_nil)) pe_int)) (pss_cons (ps_set (i := 2) sc__law_hand.nd rfl (by first | exact Or.inl rfl | exact Or.inr rfl) (pe_lst pa_nil)) (pss_cons (ps_for (passes_of rfl) rfl (pi_seq (pv 0)) (pg_name (i := 3) sc__law_hand.nd rfl (by first | exact Or.inl rfl | exact Or.inr rfl)) (pss_cons (ps_set (i := 1) sc__law_hand.nd rfl (by first | exact Or.inl rfl | exact Or.inr rfl) (pe_op op_modN (pe_callTy call_int1 rfl T.n_int bt_int (pa_cons (pe_op opx_add (pe_op opx_mul (pv 1) pe_int) (pe_callTy call_int1 rfl T.n_int bt_int (pa_cons (pv 3) pa_nil))) pa_nil)) pe_int)) (pss_one (ps_expr (pe_bm PySem.F.plainAttrs_list PySem.F.slot_list_append PySem.F.type_list_append mt_append (pv 2) (pa_cons (pe_callB call_abs rfl T.n_abs bt_abs (pa_cons (pe_callTy call_int1 rfl T.n_int bt_int (pa_cons (pv 3) pa_nil)) pa_nil)) pa_nil)))))) (pss_one (ps_ret (pe_lst (pa_cons (pv 2) (pa_cons pe_int (pa_cons pe_int (pa_cons (pv 1) pa_nil)))))))))),
      (sn_seq (sv_set (ev_op opd_add (ev_cb cad_len (ea_cons ev_var ea_nil)) (ev_int _))) (sn_seq (sv_own (evf_lst ea_nil)) (sn_seq (sv_for (iv_seq ev_var) gv_name (sv_seq (sv_set (ev_op opd_mod (ev_cb cad_int (ea_cons (ev_op opd_add (ev_op opd_mul ev_var (ev_int _)) (ev_cb cad_int (ea_cons ev_var ea_nil))) ea_nil)) (ev_int _))) (sv_app (ev_cb cad_abs (ea_cons (ev_cb cad_int (ea_cons ev_var ea_nil)) ea_nil))))) (sn_ret (evf_lst (ea_cons ev_move (ea_cons (ev_int _) (ea_cons (ev_int _) (ea_cons ev_var ea_nil)))))))))⟩)
/-! _law_mixed -/
def m__law_mixed : Py.Env → Out :=
  (sSeq ((sSet 2 ((eBin dMod ((aF dInt ((aCons ((eBin dAdd ((eBin dAdd ((eBin dMul (eVar 0) (eC (.int 48271)))) ((eBin dMul (eVar 1) (eC (.int 7919)))))) (eC (.int 30011)))) aNil)))) (eC (.int 2147483399)))))) ((sSeq ((sSet 3 ((eBin dMod ((aF dInt ((aCons ((eBin dAdd ((eBin dAdd ((eBin dMul (eVar 2) (eVar 2))) ((eBin dMul (eVar 1) (eC (.int 92821)))))) ((eBin dFdiv (eVar 2) (eC (.int 131)))))) aNil)))) (eC (.int 2147483629)))))) ((sRet ((eBin dFdiv ((aF dInt ((aCons ((eBin dMod ((aF dInt ((aCons ((eBin dAdd ((eBin dMul (eVar 3) (eC (.int 69621)))) ((eBin dFdiv (eVar 2) (eC (.int 13)))))) aNil)))) (eC (.int 2147483587)))) aNil)))) (eC (.int 32)))))))))
def f__law_mixed : List D → Rf D := runF 4 m__law_mixed
theorem sc__law_mixed : FnScope ["number", "turn", "once", "twice"] ["number", "turn"] (defScope st__law_mixed) := ⟨rfl, rfl, rfl, by decide +kernel, rfl, by decide +kernel, by decide +kernel⟩
theorem d__law_mixed {P : Program} {w : World} {Γ : Gm} {mg : Str → Option Value} {base : Heap} {f : Addr} {fd : FuncData} (F : FunD Γ.K "_law_mixed" "_law_mixed" (defArgs st__law_mixed) (defBody st__law_mixed) (defScope st__law_mixed) [] [] f fd) (T : Tx Γ mg) :
    FnOk P w Γ.K mg base (L2.CX P w) 1 f fd ["number", "turn"] (spP Γ 2 f__law_mixed) :=
  okP (dvs := []) (N := ["number", "turn", "once", "twice"]) (ps := ["number", "turn"]) (k := 0) (st := st__law_mixed) (x := "_law_mixed") (qual := "_law_mixed") [] m__law_mixed F sc__law_mixed (by decide) (fun cdv A outer s H E S0 hr => by
    exact ⟨_, (pss_cons (ps_set (i := 2) sc__law_mixed.nd rfl (by first | exact Or.inl rfl | exact Or.inr rfl) (pe_op op_modN (pe_callTy call_int1 rfl T.n_int bt_int (pa_cons (pe_op opx_add (pe_op opx_add (pe_op opx_mul (pv 0) pe_int) (pe_op opx_mul (pv 1) pe_int)) pe_int) pa_nil)) pe_int)) (pss_cons (ps_set (i := 3) sc__law_mixed.nd rfl (by first | exact Or.inl rfl | exact Or.inr rfl) (pe_op op_modN (pe_callTy call_int1 rfl T.n_int bt_int (pa_cons (pe_op opx_add (pe_op opx_add (pe_op opx_mul (pv 2) (pv 2)) (pe_op opx_mul (pv 1) pe_int)) (pe_op opx_fdiv (pv 2) pe_int)) pa_nil)) pe_int)) (pss_one (ps_ret (pe_op opx_fdiv (pe_callTy call_int1 rfl T.n_int bt_int (pa_cons (pe_op op_modN (pe_callTy call_int1 rfl T.n_int bt_int (pa_cons (pe_op opx_add (pe_op opx_mul (pv 3) pe_int) (pe_op opx_fdiv (pv 2) pe_int)) pa_nil)) pe_int) pa_nil)) pe_int))))),
      (sv_seq (sv_set (ev_op opd_mod (ev_cb cad_int (ea_cons (ev_op opd_add (ev_op opd_add (ev_op opd_mul ev_var (ev_int _)) (ev_op opd_mul ev_var (ev_int _))) (ev_int _)) ea_nil)) (ev_int _))) (sv_seq (sv_set (ev_op opd_mod (ev_cb cad_int (ea_cons (ev_op opd_add (ev_op opd_add (ev_op opd_mul ev_var ev_var) (ev_op opd_mul ev_var (ev_int _))) (ev_op opd_fdiv ev_var (ev_int _))) ea_nil)) (ev_int _))) (sv_ret (ev_op opd_fdiv (ev_cb cad_int (ea_cons (ev_op opd_mod (ev_cb cad_int (ea_cons (ev_op opd_add (ev_op opd_mul ev_var (ev_int _)) (ev_op opd_fdiv ev_var (ev_int _))) ea_nil)) (ev_int _)) ea_nil)) (ev_int _)))))⟩)
/-! _law_take -/
def m__law_take : Py.Env → Out :=
  (sSeq ((sIf ((tfAnd ((tfB (eBin dEq ((eIxOwn 0 (eC (.int 2)))) (eC (.int 0))))) ((tfB (eBin dLt ((eIxOwn 0 (eC (.int 1)))) ((aF dLen ((aCons ((eIxOwn 0 (eC (.int 0)))) aNil))))))))) ((sSeq ((sSet 2 ((eBin dIx ((eIxOwn 0 (eC (.int 0)))) ((eIxOwn 0 (eC (.int 1)))))))) ((sSeq ((sSetIx 0 (eC (.int 1)) ((eBin dAdd ((eIxOwn 0 (eC (.int 1)))) (eC (.int 1)))))) ((sSeq ((sIf ((tfB (eBin dLt (eVar 2) ((eBin dPow (eC (.int 10)) (eC (.int 18))))))) ((sRet ((eBin dMod ((aF dInt ((aCons ((eCall 2 f__law_mixed [] ((aCons ((eBin dMod ((aF dInt ((aCons (eVar 2) aNil)))) (eC (.int 2147483399)))) (aCons ((eIxOwn 0 (eC (.int 1)))) aNil))))) aNil)))) (eVar 1))))) (sNext))) ((sSetIx 0 (eC (.int 2)) (eVar 2))))))))) (sNext))) ((sSeq ((sIf ((tfB (eBin dGt ((eIxOwn 0 (eC (.int 2)))) (eC (.int 0))))) ((sSeq ((sSet 3 ((eIxOwn 0 (eC (.int 2)))))) ((sSeq ((sSetIx 0 (eC (.int 2)) ((eBin dFdiv ((aF dInt ((aCons (eVar 3) aNil)))) (eVar 1))))) ((sRet ((eBin dMod ((aF dInt ((aCons (eVar 3) aNil)))) (eVar 1))))))))) (sNext))) ((sSeq ((sSetIx 0 (eC (.int 3)) ((eBin dMod ((aF dInt ((aCons ((eBin dAdd ((eIxOwn 0 (eC (.int 3)))) (eC (.int 1)))) aNil)))) (eC (.int 2147483549)))))) ((sRet ((eBin dMod ((aF dInt ((aCons ((eCall 2 f__law_mixed [] ((aCons ((eIxOwn 0 (eC (.int 3)))) (aCons ((eIxOwn 0 (eC (.int 1)))) aNil))))) aNil)))) (eVar 1))))))))))
def f__law_take : List D → List D → Rf (D × List D) := runH 4 m__law_take
theorem sc__law_take : FnScope ["hand", "many", "cell", "rest"] ["hand", "many"] (defScope st__law_take) := ⟨rfl, rfl, rfl, by decide +kernel, rfl, by decide +kernel, by decide +kernel⟩
theorem d__law_take {P : Program} {w : World} {Γ : Gm} {mg : Str → Option Value} {base : Heap} {f : Addr} {fd : FuncData} (F : FunD Γ.K "_law_take" "_law_take" (defArgs st__law_take) (defBody st__law_take) (defScope st__law_take) [] [] f fd) (T : Tx Γ mg) (c__law_mixed_2 : OkC P w Γ.K mg base "_law_mixed" [] 1 (spP Γ 2 f__law_mixed)) :
    FnOk P w Γ.K mg base (L2.CX P w) 2 f fd ["hand", "many"] (spH Γ 2 f__law_take) :=
  okH (dvs := []) (N := ["hand", "many", "cell", "rest"]) (ps := ["hand", "many"]) (k := 1) (st := st__law_take) (x := "_law_take") (qual := "_law_take") [0] m__law_take F sc__law_take (by decide) (by decide) (fun cdv A outer s H E S0 p hr => by
    have hr1 : Room 1 _ := hr.mono (by decide)
    exact ⟨_, (pss_cons (ps_if (PW.pt (pw_and (pt_cmpR (op_eqD (hu64 hr)) (pe_ix ix_seq (pv 0) pe_int (fun _ _ => rfl)) pe_int (nomark _)) (pw_and1 (pt_cmpR op_lt (pe_ix ix_seq (pv 0) pe_int (fun _ _ => rfl)) (pe_callB call_len rfl T.n_len bt_len (pa_cons (pe_ix ix_seq (pv 0) pe_int (fun _ _ => rfl)) pa_nil)) (nomark _))))) (pss_cons (ps_set (i := 2) sc__law_take.nd rfl (by first | exact Or.inl rfl | exact Or.inr rfl) (pe_ix ix_seq (pe_ix ix_seq (pv 0) pe_int (fun _ _ => rfl)) (pe_ix ix_seq (pv 0) pe_int (fun _ _ => rfl)) (fun _ _ => rfl))) (pss_cons (ps_asg (pe_op opx_add (pe_ix ix_seq (pv 0) pe_int (fun _ _ => rfl)) pe_int) (pg_sub (pv 0) pe_int set_list)) (pss_cons (ps_if (pt_cmpR op_lt (pv 2) (pe_op opx_pow pe_int pe_int) (nomark _)) (pss_one (ps_ret (pe_op op_modN (pe_callTy call_int1 rfl T.n_int bt_int (pa_cons (pe_callX c__law_mixed_2 hr1 (takes_of rfl rfl rfl rfl) (pa_cons (pe_op op_modN (pe_callTy call_int1 rfl T.n_int bt_int (pa_cons (pv 2) pa_nil)) pe_int) (pa_cons (pe_ix ix_seq (pv 0) pe_int (fun _ _ => rfl)) pa_nil))) pa_nil)) (pv 1)))) pss_nil) (pss_one (ps_asg (pv 2) (pg_sub (pv 0) pe_int set_list)))))) pss_nil) (pss_cons (ps_if (pt_cmpR op_gt (pe_ix ix_seq (pv 0) pe_int (fun _ _ => rfl)) pe_int (nomark _)) (pss_cons (ps_set (i := 3) sc__law_take.nd rfl (by first | exact Or.inl rfl | exact Or.inr rfl) (pe_ix ix_seq (pv 0) pe_int (fun _ _ => rfl))) (pss_cons (ps_asg (pe_op opx_fdiv (pe_callTy call_int1 rfl T.n_int bt_int (pa_cons (pv 3) pa_nil)) (pv 1)) (pg_sub (pv 0) pe_int set_list)) (pss_one (ps_ret (pe_op op_modN (pe_callTy call_int1 rfl T.n_int bt_int (pa_cons (pv 3) pa_nil)) (pv 1)))))) pss_nil) (pss_cons (ps_asg (pe_op op_modN (pe_callTy call_int1 rfl T.n_int bt_int (pa_cons (pe_op opx_add (pe_ix ix_seq (pv 0) pe_int (fun _ _ => rfl)) pe_int) pa_nil)) pe_int) (pg_sub (pv 0) pe_int set_list)) (pss_one (ps_ret (pe_op op_modN (pe_callTy call_int1 rfl T.n_int bt_int (pa_cons (pe_callX c__law_mixed_2 hr1 (takes_of rfl rfl rfl rfl) (pa_cons (pe_ix ix_seq (pv 0) pe_int (fun _ _ => rfl)) (pa_cons (pe_ix ix_seq (pv 0) pe_int (fun _ _ => rfl)) pa_nil))) pa_nil)) (pv 1))))))),
      (sv_seq (sv_if (et_and (et_test (ev_op opd_eq (ev_ixOwn (ev_int _)) (ev_int _))) (et_test (ev_op opd_lt (ev_ixOwn (ev_int _)) (ev_cb cad_len (ea_cons (ev_ixOwn (ev_int _)) ea_nil))))) (sv_seq (sv_set (ev_op opd_ix (ev_ixOwn (ev_int _)) (ev_ixOwn (ev_int _)))) (sv_seq (sv_setIx (ev_op opd_add (ev_ixOwn (ev_int _)) (ev_int _)) (ev_int _)) (sv_seq (sv_if (et_test (ev_op opd_lt ev_var (ev_op opd_pow (ev_int _) (ev_int _)))) (sv_ret (ev_op opd_mod (ev_cb cad_int (ea_cons (ev_call (ea_cons (ev_op opd_mod (ev_cb cad_int (ea_cons ev_var ea_nil)) (ev_int _)) (ea_cons (ev_ixOwn (ev_int _)) ea_nil)) nil_ds) ea_nil)) ev_var)) sv_next) (sv_setIx ev_var (ev_int _))))) sv_next) (sv_seq (sv_if (et_test (ev_op opd_gt (ev_ixOwn (ev_int _)) (ev_int _))) (sv_seq (sv_set (ev_ixOwn (ev_int _))) (sv_seq (sv_setIx (ev_op opd_fdiv (ev_cb cad_int (ea_cons ev_var ea_nil)) ev_var) (ev_int _)) (sv_ret (ev_op opd_mod (ev_cb cad_int (ea_cons ev_var ea_nil)) ev_var)))) sv_next) (sv_seq (sv_setIx (ev_op opd_mod (ev_cb cad_int (ea_cons (ev_op opd_add (ev_ixOwn (ev_int _)) (ev_int _)) ea_nil)) (ev_int _)) (ev_int _)) (sv_ret (ev_op opd_mod (ev_cb cad_int (ea_cons (ev_call (ea_cons (ev_ixOwn (ev_int _)) (ea_cons (ev_ixOwn (ev_int _)) ea_nil)) nil_ds) ea_nil)) ev_var)))))⟩)
/-! _law_power -/
def l1__law_power : Py.Env → Out :=
  (sSet 2 ((eBin dMul (eVar 2) (eVar 0))))
def m__law_power : Py.Env → Out :=
  (sSeq ((sSet 2 (eC (.int 1)))) ((sSeq ((sFor (rng1M ((aCons (eVar 1) aNil))) (nmG 3) (l1__law_power))) ((sRet (eVar 2))))))
def f__law_power : List D → Rf D := runF 4 m__law_power
theorem sc__law_power : FnScope ["base", "exponent", "told", "k"] ["base", "exponent"] (defScope st__law_power) := ⟨rfl, rfl, rfl, by decide +kernel, rfl, by decide +kernel, by decide +kernel⟩
theorem d__law_power {P : Program} {w : World} {Γ : Gm} {mg : Str → Option Value} {base : Heap} {f : Addr} {fd : FuncData} (F : FunD Γ.K "_law_power" "_law_power" (defArgs st__law_power) (defBody st__law_power) (defScope st__law_power) [] [] f fd) (T : Tx Γ mg) :
    FnOk P w Γ.K mg base (L2.CX P w) 1 f fd ["base", "exponent"] (spP Γ 2 f__law_power) :=
  okP (dvs := []) (N := ["base", "exponent", "told", "k"]) (ps := ["base", "exponent"]) (k := 0) (st := st__law_power) (x := "_law_power") (qual := "_law_power") [] m__law_power F sc__law_power (by decide) (fun cdv A outer s H E S0 hr => by
    exact ⟨_, (pss_cons (ps_set (i := 2) sc__law_power.nd rfl (by first | exact Or.inl rfl | exact Or.inr rfl) pe_int) (pss_cons (ps_for (passes_of rfl) rfl (pi_range1 rfl T.n_range (pa_cons (pv 1) pa_nil)) (pg_name (i := 3) sc__law_power.nd rfl (by first | exact Or.inl rfl | exact Or.inr rfl)) (pss_one (ps_set (i := 2) sc__law_power.nd rfl (by first | exact Or.inl rfl | exact Or.inr rfl) (pe_op opx_mul (pv 2) (pv 0))))) (pss_one (ps_ret (pv 2))))),
      (sv_seq (sv_set (ev_int _)) (sv_seq (sv_for (iv_rng1 (ea_cons ev_var ea_nil)) gv_name (sv_set (ev_op opd_mul ev_var ev_var))) (sv_ret ev_var)))⟩)
/-! _law_gcd -/
def l1__law_gcd : Py.Env → Out :=
  (sSeq ((sIf ((tfB (eBin dEq (eVar 3) (eC (.int 0))))) ((sRet (eVar 2))) (sNext))) ((sSeq ((sSet 5 ((eBin dMod ((aF dInt ((aCons (eVar 2) aNil)))) (eVar 3))))) ((sSeq ((sSet 2 (eVar 3))) ((sSet 3 (eVar 5))))))))
def m__law_gcd : Py.Env → Out :=
  (sSeq ((sSet 2 ((aF dAbs ((aCons (eVar 0) aNil)))))) ((sSeq ((sSet 3 ((aF dAbs ((aCons (eVar 1) aNil)))))) ((sSeq ((sFor (rng1M ((aCons (eC (.int 6000)) aNil))) (nmG 4) (l1__law_gcd))) ((sRet (eC (.int 1)))))))))
def f__law_gcd : List D → Rf D := runF 6 m__law_gcd
theorem sc__law_gcd : FnScope ["one", "other", "a", "b", "k", "rest"] ["one", "other"] (defScope st__law_gcd) := ⟨rfl, rfl, rfl, by decide +kernel, rfl, by decide +kernel, by decide +kernel⟩
theorem d__law_gcd {P : Program} {w : World} {Γ : Gm} {mg : Str → Option Value} {base : Heap} {f : Addr} {fd : FuncData} (F : FunD Γ.K "_law_gcd" "_law_gcd" (defArgs st__law_gcd) (defBody st__law_gcd) (defScope st__law_gcd) [] [] f fd) (T : Tx Γ mg) :
    FnOk P w Γ.K mg base (L2.CX P w) 1 f fd ["one", "other"] (spP Γ 2 f__law_gcd) :=
  okP (dvs := []) (N := ["one", "other", "a", "b", "k", "rest"]) (ps := ["one", "other"]) (k := 0) (st := st__law_gcd) (x := "_law_gcd") (qual := "_law_gcd") [] m__law_gcd F sc__law_gcd (by decide) (fun cdv A outer s H E S0 hr => by
    exact ⟨_, (pss_cons (ps_set (i := 2) sc__law_gcd.nd rfl (by first | exact Or.inl rfl | exact Or.inr rfl) (pe_callB call_abs rfl T.n_abs bt_abs (pa_cons (pv 0) pa_nil))) (pss_cons (ps_set (i := 3) sc__law_gcd.nd rfl (by first | exact Or.inl rfl | exact Or.inr rfl) (pe_callB call_abs rfl T.n_abs bt_abs (pa_cons (pv 1) pa_nil))) (pss_cons (ps_for (passes_of rfl) rfl (pi_range1 rfl T.n_range (pa_cons pe_int pa_nil)) (pg_name (i := 4) sc__law_gcd.nd rfl (by first | exact Or.inl rfl | exact Or.inr rfl)) (pss_cons (ps_if (pt_cmpR (op_eqD (hu64 hr)) (pv 3) pe_int (nomark _)) (pss_one (ps_ret (pv 2))) pss_nil) (pss_cons (ps_set (i := 5) sc__law_gcd.nd rfl (by first | exact Or.inl rfl | exact Or.inr rfl) (pe_op op_modN (pe_callTy call_int1 rfl T.n_int bt_int (pa_cons (pv 2) pa_nil)) (pv 3))) (pss_cons (ps_set (i := 2) sc__law_gcd.nd rfl (by first | exact Or.inl rfl | exact Or.inr rfl) (pv 3)) (pss_one (ps_set (i := 3) sc__law_gcd.nd rfl (by first | exact Or.inl rfl | exact Or.inr rfl) (pv 5))))))) (pss_one (ps_ret pe_int))))),
      (sv_seq (sv_set (ev_cb cad_abs (ea_cons ev_var ea_nil))) (sv_seq (sv_set (ev_cb cad_abs (ea_cons ev_var ea_nil))) (sv_seq (sv_for (iv_rng1 (ea_cons (ev_int _) ea_nil)) gv_name (sv_seq (sv_if (et_test (ev_op opd_eq ev_var (ev_int _))) (sv_ret ev_var) sv_next) (sv_seq (sv_set (ev_op opd_mod (ev_cb cad_int (ea_cons ev_var ea_nil)) ev_var)) (sv_seq (sv_set ev_var) (sv_set ev_var))))) (sv_ret (ev_int _)))))⟩)
/-! _law_ratio -/
def m__law_ratio : Py.Env → Out :=
  (sSeq ((sSet 2 ((eCall 2 f__law_gcd [] ((aCons (eVar 0) (aCons (eVar 1) aNil))))))) ((sSeq ((sIf ((tfB (eBin dLt (eVar 1) (eC (.int 0))))) ((sSet 2 ((eUn dNeg (eVar 2))))) (sNext))) ((sRet ((aF dTup ((aCons ((eBin dFdiv (eVar 0) (eVar 2))) (aCons ((eBin dFdiv (eVar 1) (eVar 2))) aNil))))))))))
def f__law_ratio : List D → Rf D := runF 3 m__law_ratio
theorem sc__law_ratio : FnScope ["top", "bottom", "common"] ["top", "bottom"] (defScope st__law_ratio) := ⟨rfl, rfl, rfl, by decide +kernel, rfl, by decide +kernel, by decide +kernel⟩
theorem d__law_ratio {P : Program} {w : World} {Γ : Gm} {mg : Str → Option Value} {base : Heap} {f : Addr} {fd : FuncData} (F : FunD Γ.K "_law_ratio" "_law_ratio" (defArgs st__law_ratio) (defBody st__law_ratio) (defScope st__law_ratio) [] [] f fd) (T : Tx Γ mg) (c__law_gcd_2 : OkC P w Γ.K mg base "_law_gcd" [] 1 (spP Γ 2 f__law_gcd)) :
    FnOk P w Γ.K mg base (L2.CX P w) 2 f fd ["top", "bottom"] (spP Γ 2 f__law_ratio) :=
  okP (dvs := []) (N := ["top", "bottom", "common"]) (ps := ["top", "bottom"]) (k := 1) (st := st__law_ratio) (x := "_law_ratio") (qual := "_law_ratio") [] m__law_ratio F sc__law_ratio (by decide) (fun cdv A outer s H E S0 hr => by
    have hr1 : Room 1 _ := hr.mono (by decide)
    exact ⟨_, (pss_cons (ps_set (i := 2) sc__law_ratio.nd rfl (by first | exact Or.inl rfl | exact Or.inr rfl) (pe_callX c__law_gcd_2 hr1 (takes_of rfl rfl rfl rfl) (pa_cons (pv 0) (pa_cons (pv 1) pa_nil)))) (pss_cons (ps_if (pt_cmpR op_lt (pv 1) pe_int (nomark _)) (pss_one (ps_set (i := 2) sc__law_ratio.nd rfl (by first | exact Or.inl rfl | exact Or.inr rfl) (pe_un un_neg (pv 2)))) pss_nil) (pss_one (ps_ret (pe_tup (pa_cons (pe_op opx_fdiv (pv 0) (pv 2)) (pa_cons (pe_op opx_fdiv (pv 1) (pv 2)) pa_nil))))))),
      (sv_seq (sv_set (ev_call (ea_cons ev_var (ea_cons ev_var ea_nil)) nil_ds)) (sv_seq (sv_if (et_test (ev_op opd_lt ev_var (ev_int _))) (sv_set (ev_un und_neg ev_var)) sv_next) (sv_ret (ev_tup (ea_cons (ev_op opd_fdiv ev_var ev_var) (ea_cons (ev_op opd_fdiv ev_var ev_var) ea_nil))))))⟩)
/-! _law_plus -/
def m__law_plus : Py.Env → Out :=
  (sRet ((eCall 2 f__law_ratio [] ((aCons ((eBin dAdd ((eBin dMul ((eBin dIx (eVar 0) (eC (.int 0)))) ((eBin dIx (eVar 1) (eC (.int 1)))))) ((eBin dMul ((eBin dIx (eVar 1) (eC (.int 0)))) ((eBin dIx (eVar 0) (eC (.int 1)))))))) (aCons ((eBin dMul ((eBin dIx (eVar 0) (eC (.int 1)))) ((eBin dIx (eVar 1) (eC (.int 1)))))) aNil))))))
def f__law_plus : List D → Rf D := runF 2 m__law_plus
theorem sc__law_plus : FnScope ["one", "other"] ["one", "other"] (defScope st__law_plus) := ⟨rfl, rfl, rfl, by decide +kernel, rfl, by decide +kernel, by decide +kernel⟩
theorem d__law_plus {P : Program} {w : World} {Γ : Gm} {mg : Str → Option Value} {base : Heap} {f : Addr} {fd : FuncData} (F : FunD Γ.K "_law_plus" "_law_plus" (defArgs st__law_plus) (defBody st__law_plus) (defScope st__law_plus) [] [] f fd) (T : Tx Γ mg) (c__law_ratio_2 : OkC P w Γ.K mg base "_law_ratio" [] 2 (spP Γ 2 f__law_ratio)) :
    FnOk P w Γ.K mg base (L2.CX P w) 3 f fd ["one", "other"] (spP Γ 2 f__law_plus) :=
  okP (dvs := []) (N := ["one", "other"]) (ps := ["one", "other"]) (k := 2) (st := st__law_plus) (x := "_law_plus") (qual := "_law_plus") [] m__law_plus F sc__law_plus (by decide) (fun cdv A outer s H E S0 hr => by
    have hr2 : Room 2 _ := hr.mono (by decide)
    exact ⟨_, (pss_one (ps_ret (pe_callX c__law_ratio_2 hr2 (takes_of rfl rfl rfl rfl) (pa_cons (pe_op opx_add (pe_op opx_mul (pe_ix ix_seq (pv 0) pe_int (fun _ _ => rfl)) (pe_ix ix_seq (pv 1) pe_int (fun _ _ => rfl))) (pe_op opx_mul (pe_ix ix_seq (pv 1) pe_int (fun _ _ => rfl)) (pe_ix ix_seq (pv 0) pe_int (fun _ _ => rfl)))) (pa_cons (pe_op opx_mul (pe_ix ix_seq (pv 0) pe_int (fun _ _ => rfl)) (pe_ix ix_seq (pv 1) pe_int (fun _ _ => rfl))) pa_nil))))),
      (sv_ret (ev_call (ea_cons (ev_op opd_add (ev_op opd_mul (ev_op opd_ix ev_var (ev_int _)) (ev_op opd_ix ev_var (ev_int _))) (ev_op opd_mul (ev_op opd_ix ev_var (ev_int _)) (ev_op opd_ix ev_var (ev_int _)))) (ea_cons (ev_op opd_mul (ev_op opd_ix ev_var (ev_int _)) (ev_op opd_ix ev_var (ev_int _))) ea_nil)) nil_ds))⟩)
/-! _law_times -/
def m__law_times : Py.Env → Out :=
  (sRet ((eCall 2 f__law_ratio [] ((aCons ((eBin dMul ((eBin dIx (eVar 0) (eC (.int 0)))) ((eBin dIx (eVar 1) (eC (.int 0)))))) (aCons ((eBin dMul ((eBin dIx (eVar 0) (eC (.int 1)))) ((eBin dIx (eVar 1) (eC (.int 1)))))) aNil))))))
def f__law_times : List D → Rf D := runF 2 m__law_times
theorem sc__law_times : FnScope ["one", "other"] ["one", "other"] (defScope st__law_times) := ⟨rfl, rfl, rfl, by decide +kernel, rfl, by decide +kernel, by decide +kernel⟩
theorem d__law_times {P : Program} {w : World} {Γ : Gm} {mg : Str → Option Value} {base : Heap} {f : Addr} {fd : FuncData} (F : FunD Γ.K "_law_times" "_law_times" (defArgs st__law_times) (defBody st__law_times) (defScope st__law_times) [] [] f fd) (T : Tx Γ mg) (c__law_ratio_2 : OkC P w Γ.K mg base "_law_ratio" [] 2 (spP Γ 2 f__law_ratio)) :
    FnOk P w Γ.K mg base (L2.CX P w) 3 f fd ["one", "other"] (spP Γ 2 f__law_times) :=
  okP (dvs := []) (N := ["one", "other"]) (ps := ["one", "other"]) (k := 2) (st := st__law_times) (x := "_law_times") (qual := "_law_times") [] m__law_times F sc__law_times (by decide) (fun cdv A outer s H E S0 hr => by
    have hr2 : Room 2 _ := hr.mono (by decide)
    exact ⟨_, (pss_one (ps_ret (pe_callX c__law_ratio_2 hr2 (takes_of rfl rfl rfl rfl) (pa_cons (pe_op opx_mul (pe_ix ix_seq (pv 0) pe_int (fun _ _ => rfl)) (pe_ix ix_seq (pv 1) pe_int (fun _ _ => rfl))) (pa_cons (pe_op opx_mul (pe_ix ix_seq (pv 0) pe_int (fun _ _ => rfl)) (pe_ix ix_seq (pv 1) pe_int (fun _ _ => rfl))) pa_nil))))),
      (sv_ret (ev_call (ea_cons (ev_op opd_mul (ev_op opd_ix ev_var (ev_int _)) (ev_op opd_ix ev_var (ev_int _))) (ea_cons (ev_op opd_mul (ev_op opd_ix ev_var (ev_int _)) (ev_op opd_ix ev_var (ev_int _))) ea_nil)) nil_ds))⟩)
/-! _law_below -/
def m__law_below : Py.Env → Out :=
  (sRet ((eBin dLt ((eBin dMul ((eBin dIx (eVar 0) (eC (.int 0)))) ((eBin dIx (eVar 1) (eC (.int 1)))))) ((eBin dMul ((eBin dIx (eVar 1) (eC (.int 0)))) ((eBin dIx (eVar 0) (eC (.int 1)))))))))
def f__law_below : List D → Rf D := runF 2 m__law_below
theorem sc__law_below : FnScope ["one", "other"] ["one", "other"] (defScope st__law_below) := ⟨rfl, rfl, rfl, by decide +kernel, rfl, by decide +kernel, by decide +kernel⟩
theorem d__law_below {P : Program} {w : World} {Γ : Gm} {mg : Str → Option Value} {base : Heap} {f : Addr} {fd : FuncData} (F : FunD Γ.K "_law_below" "_law_below" (defArgs st__law_below) (defBody st__law_below) (defScope st__law_below) [] [] f fd) (T : Tx Γ mg) :
    FnOk P w Γ.K mg base (L2.CX P w) 1 f fd ["one", "other"] (spP Γ 2 f__law_below) :=
  okP (dvs := []) (N := ["one", "other"]) (ps := ["one", "other"]) (k := 0) (st := st__law_below) (x := "_law_below") (qual := "_law_below") [] m__law_below F sc__law_below (by decide) (fun cdv A outer s H E S0 hr => by
    exact ⟨_, (pss_one (ps_ret (pe_cmpR op_lt (pe_op opx_mul (pe_ix ix_seq (pv 0) pe_int (fun _ _ => rfl)) (pe_ix ix_seq (pv 1) pe_int (fun _ _ => rfl))) (pe_op opx_mul (pe_ix ix_seq (pv 1) pe_int (fun _ _ => rfl)) (pe_ix ix_seq (pv 0) pe_int (fun _ _ => rfl))) (nomark _)))),
      (sv_ret (ev_op opd_lt (ev_op opd_mul (ev_op opd_ix ev_var (ev_int _)) (ev_op opd_ix ev_var (ev_int _))) (ev_op opd_mul (ev_op opd_ix ev_var (ev_int _)) (ev_op opd_ix ev_var (ev_int _)))))⟩)
/-! _law_total -/
def l1__law_total : Py.Env → Out :=
  (sSet 1 ((eCall 2 f__law_plus [] ((aCons (eVar 1) (aCons (eVar 2) aNil))))))
def m__law_total : Py.Env → Out :=
  (sSeq ((sSet 1 ((aF dTup ((aCons (eC (.int 0)) (aCons (eC (.int 1)) aNil))))))) ((sSeq ((sFor (iSeqM (eVar 0)) (nmG 2) (l1__law_total))) ((sRet (eVar 1))))))
def f__law_total : List D → Rf D := runF 3 m__law_total
theorem sc__law_total : FnScope ["row", "told", "one"] ["row"] (defScope st__law_total) := ⟨rfl, rfl, rfl, by decide +kernel, rfl, by decide +kernel, by decide +kernel⟩
theorem d__law_total {P : Program} {w : World} {Γ : Gm} {mg : Str → Option Value} {base : Heap} {f : Addr} {fd : FuncData} (F : FunD Γ.K "_law_total" "_law_total" (defArgs st__law_total) (defBody st__law_total) (defScope st__law_total) [] [] f fd) (T : Tx Γ mg) (c__law_plus_2 : OkC P w Γ.K mg base "_law_plus" [] 3 (spP Γ 2 f__law_plus)) :
    FnOk P w Γ.K mg base (L2.CX P w) 4 f fd ["row"] (spP Γ 1 f__law_total) :=
  okP (dvs := []) (N := ["row", "told", "one"]) (ps := ["row"]) (k := 3) (st := st__law_total) (x := "_law_total") (qual := "_law_total") [] m__law_total F sc__law_total (by decide) (fun cdv A outer s H E S0 hr => by
    have hr3 : Room 3 _ := hr.mono (by decide)
    exact ⟨_, (pss_cons (ps_set (i := 1) sc__law_total.nd rfl (by first | exact Or.inl rfl | exact Or.inr rfl) (pe_tup (pa_cons pe_int (pa_cons pe_int pa_nil)))) (pss_cons (ps_for (passes_of rfl) rfl (pi_seq (pv 0)) (pg_name (i := 2) sc__law_total.nd rfl (by first | exact Or.inl rfl | exact Or.inr rfl)) (pss_one (ps_set (i := 1) sc__law_total.nd rfl (by first | exact Or.inl rfl | exact Or.inr rfl) (pe_callX c__law_plus_2 hr3 (takes_of rfl rfl rfl rfl) (pa_cons (pv 1) (pa_cons (pv 2) pa_nil)))))) (pss_one (ps_ret (pv 1))))),
      (sv_seq (sv_set (ev_tup (ea_cons (ev_int _) (ea_cons (ev_int _) ea_nil)))) (sv_seq (sv_for (iv_seq ev_var) gv_name (sv_set (ev_call (ea_cons ev_var (ea_cons ev_var ea_nil)) nil_ds))) (sv_ret ev_var)))⟩)
/-! _law_tops -/
def l1__law_tops : Py.Env → Out :=
  (sSet 1 ((eBin dFdiv ((eBin dMul (eVar 1) ((eBin dIx (eVar 2) (eC (.int 1)))))) ((eCall 2 f__law_gcd [] ((aCons (eVar 1) (aCons ((eBin dIx (eVar 2) (eC (.int 1)))) aNil))))))))
def e2__law_tops : Py.Env → Rs D :=
  (eBin dMul ((eBin dIx (eVar 2) (eC (.int 0)))) ((eBin dFdiv (eVar 1) ((eBin dIx (eVar 2) (eC (.int 1)))))))
def m__law_tops : Py.Env → Out :=
  (sSeq ((sSet 1 (eC (.int 1)))) ((sSeq ((sFor (iSeqM (eVar 0)) (nmG 2) (l1__law_tops))) ((sRet ((aF dTup ((aCons (eVar 1) (aCons ((eLc (iSeqM (eVar 0)) (nmG 2) (lYes) (e2__law_tops) [2])) aNil))))))))))
def f__law_tops : List D → Rf D := runF 3 m__law_tops
theorem sc__law_tops : FnScope ["weights", "q", "one"] ["weights"] (defScope st__law_tops) := ⟨rfl, rfl, rfl, by decide +kernel, rfl, by decide +kernel, by decide +kernel⟩
theorem d__law_tops {P : Program} {w : World} {Γ : Gm} {mg : Str → Option Value} {base : Heap} {f : Addr} {fd : FuncData} (F : FunD Γ.K "_law_tops" "_law_tops" (defArgs st__law_tops) (defBody st__law_tops) (defScope st__law_tops) [] [] f fd) (T : Tx Γ mg) (c__law_gcd_2 : OkC P w Γ.K mg base "_law_gcd" [] 1 (spP Γ 2 f__law_gcd)) :
    FnOk P w Γ.K mg base (L2.CX P w) 2 f fd ["weights"] (spP Γ 1 f__law_tops) :=
  okP (dvs := []) (N := ["weights", "q", "one"]) (ps := ["weights"]) (k := 1) (st := st__law_tops) (x := "_law_tops") (qual := "_law_tops") [] m__law_tops F sc__law_tops (by decide) (fun cdv A outer s H E S0 hr => by
    have hr1 : Room 1 _ := hr.mono (by decide)
    exact ⟨_, (pss_cons (ps_set (i := 1) sc__law_tops.nd rfl (by first | exact Or.inl rfl | exact Or.inr rfl) pe_int) (pss_cons (ps_for (passes_of rfl) rfl (pi_seq (pv 0)) (pg_name (i := 2) sc__law_tops.nd rfl (by first | exact Or.inl rfl | exact Or.inr rfl)) (pss_one (ps_set (i := 1) sc__law_tops.nd rfl (by first | exact Or.inl rfl | exact Or.inr rfl) (pe_op opx_fdiv (pe_op opx_mul (pv 1) (pe_ix ix_seq (pv 2) pe_int (fun _ _ => rfl))) (pe_callX c__law_gcd_2 hr1 (takes_of rfl rfl rfl rfl) (pa_cons (pv 1) (pa_cons (pe_ix ix_seq (pv 2) pe_int (fun _ _ => rfl)) pa_nil))))))) (pss_one (ps_ret (pe_tup (pa_cons (pv 1) (pa_cons (pe_lc (own := [("one", 2)]) rfl sc__law_tops.nd (pi_seq (pv 0)) (blkOk_by (N := ["weights", "q", "one"]) (sc := defScope st__law_tops) (by decide +kernel)) (fun _ _ _ _ _ => (pg_name (i := 2) sc__law_tops.nd rfl (by first | exact Or.inl rfl | exact Or.inr rfl))) (fun _ _ _ _ _ => pts_nil) (fun _ _ _ _ _ => (pe_op opx_mul (pe_ix ix_seq (pv 2) pe_int (fun _ _ => rfl)) (pe_op opx_fdiv (pv 1) (pe_ix ix_seq (pv 2) pe_int (fun _ _ => rfl)))))) pa_nil))))))),
      (sv_seq (sv_set (ev_int _)) (sv_seq (sv_for (iv_seq ev_var) gv_name (sv_set (ev_op opd_fdiv (ev_op opd_mul ev_var (ev_op opd_ix ev_var (ev_int _))) (ev_call (ea_cons ev_var (ea_cons (ev_op opd_ix ev_var (ev_int _)) ea_nil)) nil_ds)))) (sv_ret (ev_tup (ea_cons ev_var (ea_cons (ev_of (evf_lc (iv_seq ev_var) (fun _ _ => gv_name) (fun _ _ => et_yes) (fun _ _ => (ev_op opd_mul (ev_op opd_ix ev_var (ev_int _)) (ev_op opd_fdiv ev_var (ev_op opd_ix ev_var (ev_int _))))))) ea_nil))))))⟩)
/-! _law_seq -/
def m__law_seq : Py.Env → Out :=
  (sRet ((eOr ((eUn (dIsi "list") (eVar 0))) ((eUn (dIsi "tuple") (eVar 0))))))
def f__law_seq : List D → Rf D := runF 1 m__law_seq
theorem sc__law_seq : FnScope ["thing"] ["thing"] (defScope st__law_seq) := ⟨rfl, rfl, rfl, by decide +kernel, rfl, by decide +kernel, by decide +kernel⟩
theorem d__law_seq {P : Program} {w : World} {Γ : Gm} {mg : Str → Option Value} {base : Heap} {f : Addr} {fd : FuncData} (F : FunD Γ.K "_law_seq" "_law_seq" (defArgs st__law_seq) (defBody st__law_seq) (defScope st__law_seq) [] [] f fd) (T : Tx Γ mg) :
    FnOk P w Γ.K mg base (L2.CX P w) 1 f fd ["thing"] (spP Γ 1 f__law_seq) :=
  okP (dvs := []) (N := ["thing"]) (ps := ["thing"]) (k := 0) (st := st__law_seq) (x := "_law_seq") (qual := "_law_seq") [] m__law_seq F sc__law_seq (by decide) (fun cdv A outer s H E S0 hr => by
    exact ⟨_, (pss_one (ps_ret (pe_or (pe_callB call_isi rfl T.n_isinstance bt_isinstance (pa_cons (pv 0) (pa_cons (pe_bltn (v := .ty "list") rfl T.n_list bt_list rfl) pa_nil))) (pe_one (pe_callB call_isi rfl T.n_isinstance bt_isinstance (pa_cons (pv 0) (pa_cons (pe_bltn (v := .ty "tuple") rfl T.n_tuple bt_tuple rfl) pa_nil))))))),
      (sv_ret (ev_orV (ev_isi ev_var) (ev_isi ev_var)))⟩)
/-! _law_int -/
def m__law_int : Py.Env → Out :=
  (sRet ((eAnd ((eUn (dIsi "int") (eVar 0))) ((eNot ((eUn (dIsi "bool") (eVar 0))))))))
def f__law_int : List D → Rf D := runF 1 m__law_int
theorem sc__law_int : FnScope ["thing"] ["thing"] (defScope st__law_int) := ⟨rfl, rfl, rfl, by decide +kernel, rfl, by decide +kernel, by decide +kernel⟩
theorem d__law_int {P : Program} {w : World} {Γ : Gm} {mg : Str → Option Value} {base : Heap} {f : Addr} {fd : FuncData} (F : FunD Γ.K "_law_int" "_law_int" (defArgs st__law_int) (defBody st__law_int) (defScope st__law_int) [] [] f fd) (T : Tx Γ mg) :
    FnOk P w Γ.K mg base (L2.CX P w) 1 f fd ["thing"] (spP Γ 1 f__law_int) :=
  okP (dvs := []) (N := ["thing"]) (ps := ["thing"]) (k := 0) (st := st__law_int) (x := "_law_int") (qual := "_law_int") [] m__law_int F sc__law_int (by decide) (fun cdv A outer s H E S0 hr => by
    exact ⟨_, (pss_one (ps_ret (pe_and (pe_callB call_isi rfl T.n_isinstance bt_isinstance (pa_cons (pv 0) (pa_cons (pe_bltn (v := .ty "int") rfl T.n_int bt_int rfl) pa_nil))) (pe_one (pe_not (pe_callB call_isi rfl T.n_isinstance bt_isinstance (pa_cons (pv 0) (pa_cons (pe_bltn (v := .ty "bool") rfl T.n_bool bt_bool rfl) pa_nil)))))))),
      (sv_ret (ev_andV (ev_isi ev_var) (ev_notV (ev_isi ev_var))))⟩)
/-! _law_same -/
def m__law_same : Py.Env → Out :=
  (sRet ((eAnd ((eUn (dIsi "tuple") (eVar 0))) ((eAnd ((eBin dEq ((aF dLen ((aCons (eVar 0) aNil)))) (eC (.int 2)))) ((eAnd ((eCall 1 f__law_int [] ((aCons ((eBin dIx (eVar 0) (eC (.int 0)))) aNil)))) ((eAnd ((eCall 1 f__law_int [] ((aCons ((eBin dIx (eVar 0) (eC (.int 1)))) aNil)))) ((eBin dEq (eVar 0) (eVar 1))))))))))))
def f__law_same : List D → Rf D := runF 2 m__law_same
theorem sc__law_same : FnScope ["one", "other"] ["one", "other"] (defScope st__law_same) := ⟨rfl, rfl, rfl, by decide +kernel, rfl, by decide +kernel, by decide +kernel⟩
theorem d__law_same {P : Program} {w : World} {Γ : Gm} {mg : Str → Option Value} {base : Heap} {f : Addr} {fd : FuncData} (F : FunD Γ.K "_law_same" "_law_same" (defArgs st__law_same) (defBody st__law_same) (defScope st__law_same) [] [] f fd) (T : Tx Γ mg) (c__law_int_1 : OkC P w Γ.K mg base "_law_int" [] 1 (spP Γ 1 f__law_int)) :
    FnOk P w Γ.K mg base (L2.CX P w) 2 f fd ["one", "other"] (spP Γ 2 f__law_same) :=
  okP (dvs := []) (N := ["one", "other"]) (ps := ["one", "other"]) (k := 1) (st := st__law_same) (x := "_law_same") (qual := "_law_same") [] m__law_same F sc__law_same (by decide) (fun cdv A outer s H E S0 hr => by
    have hr1 : Room 1 _ := hr.mono (by decide)
    exact ⟨_, (pss_one (ps_ret (pe_and (pe_callB call_isi rfl T.n_isinstance bt_isinstance (pa_cons (pv 0) (pa_cons (pe_bltn (v := .ty "tuple") rfl T.n_tuple bt_tuple rfl) pa_nil))) (pe_and (pe_cmpR (op_eqD (hu64 hr)) (pe_callB call_len rfl T.n_len bt_len (pa_cons (pv 0) pa_nil)) pe_int (nomark _)) (pe_and (pe_callX c__law_int_1 hr1 (takes_of rfl rfl rfl rfl) (pa_cons (pe_ix ix_seq (pv 0) pe_int (fun _ _ => rfl)) pa_nil)) (pe_and (pe_callX c__law_int_1 hr1 (takes_of rfl rfl rfl rfl) (pa_cons (pe_ix ix_seq (pv 0) pe_int (fun _ _ => rfl)) pa_nil)) (pe_one (pe_cmpR (op_eqD (hu64 hr)) (pv 0) (pv 1) (nomark _))))))))),
      (sv_ret (ev_andV (ev_isi ev_var) (ev_andV (ev_op opd_eq (ev_cb cad_len (ea_cons ev_var ea_nil)) (ev_int _)) (ev_andV (ev_call (ea_cons (ev_op opd_ix ev_var (ev_int _)) ea_nil) nil_ds) (ev_andV (ev_call (ea_cons (ev_op opd_ix ev_var (ev_int _)) ea_nil) nil_ds) (ev_op opd_eq ev_var ev_var))))))⟩)
/-! _law_sized -/
def m__law_sized : Py.Env → Out :=
  (sSeq ((sSet 1 ((eBin dIx ((aF dTup ((aCons (eC (.int 4)) (aCons (eC (.int 12)) (aCons (eC (.int 1000)) (aCons ((eBin dPow (eC (.int 10)) (eC (.int 6)))) (aCons ((eBin dPow (eC (.int 10)) (eC (.int 40)))) (aCons (eC (.int 3)) aNil))))))))) ((eCallH 0 2 f__law_take ((aCons (eC (.int 6)) aNil)))))))) ((sRet ((eBin dSub ((eCallH 0 2 f__law_take ((aCons ((eBin dAdd ((eBin dMul (eC (.int 2)) (eVar 1))) (eC (.int 1)))) aNil)))) (eVar 1))))))
def f__law_sized : List D → List D → Rf (D × List D) := runH 2 m__law_sized
theorem sc__law_sized : FnScope ["hand", "size"] ["hand"] (defScope st__law_sized) := ⟨rfl, rfl, rfl, by decide +kernel, rfl, by decide +kernel, by decide +kernel⟩
theorem d__law_sized {P : Program} {w : World} {Γ : Gm} {mg : Str → Option Value} {base : Heap} {f : Addr} {fd : FuncData} (F : FunD Γ.K "_law_sized" "_law_sized" (defArgs st__law_sized) (defBody st__law_sized) (defScope st__law_sized) [] [] f fd) (T : Tx Γ mg) (c__law_take_2 : OkC P w Γ.K mg base "_law_take" [] 2 (spH Γ 2 f__law_take)) :
    FnOk P w Γ.K mg base (L2.CX P w) 3 f fd ["hand"] (spH Γ 1 f__law_sized) :=
  okH (dvs := []) (N := ["hand", "size"]) (ps := ["hand"]) (k := 2) (st := st__law_sized) (x := "_law_sized") (qual := "_law_sized") [0] m__law_sized F sc__law_sized (by decide) (by decide) (fun cdv A outer s H E S0 p hr => by
    have hr2 : Room 2 _ := hr.mono (by decide)
    exact ⟨_, (pss_cons (ps_set (i := 1) sc__law_sized.nd rfl (by first | exact Or.inl rfl | exact Or.inr rfl) (pe_ix ix_seq (pe_tup (pa_cons pe_int (pa_cons pe_int (pa_cons pe_int (pa_cons (pe_op opx_pow pe_int pe_int) (pa_cons (pe_op opx_pow pe_int pe_int) (pa_cons pe_int pa_nil))))))) (pe_callX c__law_take_2 hr2 (takes_of rfl rfl rfl rfl) (pa_cons (pv 0) (pa_cons pe_int pa_nil))) (fun _ _ => rfl))) (pss_one (ps_ret (pe_op op_sub (pe_callX c__law_take_2 hr2 (takes_of rfl rfl rfl rfl) (pa_cons (pv 0) (pa_cons (pe_op opx_add (pe_op opx_mul pe_int (pv 1)) pe_int) pa_nil))) (pv 1))))),
      (sv_seq (sv_set (ev_op opd_ix (ev_tup (ea_cons (ev_int _) (ea_cons (ev_int _) (ea_cons (ev_int _) (ea_cons (ev_op opd_pow (ev_int _) (ev_int _)) (ea_cons (ev_op opd_pow (ev_int _) (ev_int _)) (ea_cons (ev_int _) ea_nil))))))) (ev_callH (ea_cons (ev_int _) ea_nil)))) (sv_ret (ev_op opd_sub (ev_callH (ea_cons (ev_op opd_add (ev_op opd_mul (ev_int _) ev_var) (ev_int _)) ea_nil)) ev_var)))⟩)
/-! _law_odd -/
def m__law_odd : Py.Env → Out :=
  (sRet ((eBin dIx ((aF dTup ((aCons (eC .non) (aCons (eC (.str "1")) (aCons (eC (.bl true)) (aCons (eC (.bl false)) (aCons ((aF dLst ((aCons (eC (.int 1)) aNil)))) (aCons ((aF dTup ((aCons (eC (.int 1)) aNil)))) aNil))))))))) ((eCallH 0 2 f__law_take ((aCons (eC (.int 6)) aNil)))))))
def f__law_odd : List D → List D → Rf (D × List D) := runH 1 m__law_odd
theorem sc__law_odd : FnScope ["hand"] ["hand"] (defScope st__law_odd) := ⟨rfl, rfl, rfl, by decide +kernel, rfl, by decide +kernel, by decide +kernel⟩
theorem d__law_odd {P : Program} {w : World} {Γ : Gm} {mg : Str → Option Value} {base : Heap} {f : Addr} {fd : FuncData} (F : FunD Γ.K "_law_odd" "_law_odd" (defArgs st__law_odd) (defBody st__law_odd) (defScope st__law_odd) [] [] f fd) (T : Tx Γ mg) (c__law_take_2 : OkC P w Γ.K mg base "_law_take" [] 2 (spH Γ 2 f__law_take)) :
    FnOk P w Γ.K mg base (L2.CX P w) 3 f fd ["hand"] (spH Γ 1 f__law_odd) :=
  okH (dvs := []) (N := ["hand"]) (ps := ["hand"]) (k := 2) (st := st__law_odd) (x := "_law_odd") (qual := "_law_odd") [0] m__law_odd F sc__law_odd (by decide) (by decide) (fun cdv A outer s H E S0 p hr => by
    have hr2 : Room 2 _ := hr.mono (by decide)
    exact ⟨_, (pss_one (ps_ret (pe_ix ix_seq (pe_tup (pa_cons pe_non (pa_cons pe_str (pa_cons pe_bl (pa_cons pe_bl (pa_cons (pe_lst (pa_cons pe_int pa_nil)) (pa_cons (pe_tup (pa_cons pe_int pa_nil)) pa_nil))))))) (pe_callX c__law_take_2 hr2 (takes_of rfl rfl rfl rfl) (pa_cons (pv 0) (pa_cons pe_int pa_nil))) (fun _ _ => rfl)))),
      (sv_ret (ev_op opd_ix (ev_tup (ea_cons ev_non (ea_cons (ev_str _) (ea_cons (ev_bl _) (ea_cons (ev_bl _) (ea_cons (ev_lst (ea_cons (ev_int _) ea_nil)) (ea_cons (ev_tup (ea_cons (ev_int _) ea_nil)) ea_nil))))))) (ev_callH (ea_cons (ev_int _) ea_nil))))⟩)
/-! _law_yes -/
def m__law_yes : Py.Env → Out :=
  (sRet ((eAnd ((eUn (dIsi "bool") (eVar 0))) ((eBin dEq (eVar 0) (eVar 1))))))
def f__law_yes : List D → Rf D := runF 2 m__law_yes
theorem sc__law_yes : FnScope ["told", "due"] ["told", "due"] (defScope st__law_yes) := ⟨rfl, rfl, rfl, by decide +kernel, rfl, by decide +kernel, by decide +kernel⟩
theorem d__law_yes {P : Program} {w : World} {Γ : Gm} {mg : Str → Option Value} {base : Heap} {f : Addr} {fd : FuncData} (F : FunD Γ.K "_law_yes" "_law_yes" (defArgs st__law_yes) (defBody st__law_yes) (defScope st__law_yes) [] [] f fd) (T : Tx Γ mg) :
    FnOk P w Γ.K mg base (L2.CX P w) 1 f fd ["told", "due"] (spP Γ 2 f__law_yes) :=
  okP (dvs := []) (N := ["told", "due"]) (ps := ["told", "due"]) (k := 0) (st := st__law_yes) (x := "_law_yes") (qual := "_law_yes") [] m__law_yes F sc__law_yes (by decide) (fun cdv A outer s H E S0 hr => by
    exact ⟨_, (pss_one (ps_ret (pe_and (pe_callB call_isi rfl T.n_isinstance bt_isinstance (pa_cons (pv 0) (pa_cons (pe_bltn (v := .ty "bool") rfl T.n_bool bt_bool rfl) pa_nil))) (pe_one (pe_cmpR (op_eqD (hu64 hr)) (pv 0) (pv 1) (nomark _)))))),
      (sv_ret (ev_andV (ev_isi ev_var) (ev_op opd_eq ev_var ev_var)))⟩)
/-! _law_family -/
theorem sc__law_family : FnScope ["wrong"] ["wrong"] (defScope st__law_family) := ⟨rfl, rfl, rfl, by decide +kernel, rfl, by decide +kernel, by decide +kernel⟩
theorem d__law_family {P : Program} {w : World} {Γ : Gm} {mg : Str → Option Value} {base : Heap} {f : Addr} {fd : FuncData} (F : FunD Γ.K "_law_family" "_law_family" (defArgs st__law_family) (defBody st__law_family) (defScope st__law_family) [] [] f fd) (T : Tx Γ mg) :
    FnP P w Γ.K mg base 1 f fd ["wrong"] (spFam Γ.K [.ref (Γ.cl 0), .type "ValueError"]) :=
  okFam (x := "_law_family") (qual := "_law_family") (y := "wrong") (st := st__law_family) F sc__law_family (.own (Γ.cl 0)) (.ty "ValueError") (fun cdv A outer s H q cls dx hz => (pss_one (ps_ret (pe_and (pe_callB (call_isY hz List.mem_cons_self) rfl T.n_isinstance bt_isinstance (pa_cons (pv 0) (pa_cons (pe_glob (v := .ref (Γ.cl 0)) rfl T.c_NestError rfl) pa_nil))) (pe_one (pe_callB (call_isY hz List.mem_cons_self) rfl T.n_isinstance bt_isinstance (pa_cons (pv 0) (pa_cons (pe_bltn (v := .ty "ValueError") rfl T.n_ValueError bt_ValueError rfl) pa_nil))))))))
/-! _law_drawn -/
def m__law_drawn : Py.Env → Out :=
  (sSeq ((sSet 1 ((eBin dIx ((aF dTup ((aCons (eC (.int 1)) (aCons (eC (.int 6)) (aCons (eC (.int 60)) (aCons ((eBin dPow (eC (.int 10)) (eC (.int 30)))) aNil))))))) ((eCallH 0 2 f__law_take ((aCons (eC (.int 4)) aNil)))))))) ((sRet ((eCall 2 f__law_ratio [] ((aCons ((eCallH 0 1 f__law_sized (aNil))) (aCons ((eBin dAdd (eC (.int 1)) ((eCallH 0 2 f__law_take ((aCons (eVar 1) aNil)))))) aNil))))))))
def f__law_drawn : List D → List D → Rf (D × List D) := runH 2 m__law_drawn
theorem sc__law_drawn : FnScope ["hand", "size"] ["hand"] (defScope st__law_drawn) := ⟨rfl, rfl, rfl, by decide +kernel, rfl, by decide +kernel, by decide +kernel⟩
theorem d__law_drawn {P : Program} {w : World} {Γ : Gm} {mg : Str → Option Value} {base : Heap} {f : Addr} {fd : FuncData} (F : FunD Γ.K "_law_drawn" "_law_drawn" (defArgs st__law_drawn) (defBody st__law_drawn) (defScope st__law_drawn) [] [] f fd) (T : Tx Γ mg) (c__law_take_2 : OkC P w Γ.K mg base "_law_take" [] 2 (spH Γ 2 f__law_take)) (c__law_ratio_2 : OkC P w Γ.K mg base "_law_ratio" [] 2 (spP Γ 2 f__law_ratio)) (c__law_sized_1 : OkC P w Γ.K mg base "_law_sized" [] 3 (spH Γ 1 f__law_sized)) :
    FnOk P w Γ.K mg base (L2.CX P w) 4 f fd ["hand"] (spH Γ 1 f__law_drawn) :=
  okH (dvs := []) (N := ["hand", "size"]) (ps := ["hand"]) (k := 3) (st := st__law_drawn) (x := "_law_drawn") (qual := "_law_drawn") [0] m__law_drawn F sc__law_drawn (by decide) (by decide) (fun cdv A outer s H E S0 p hr => by
    have hr2 : Room 2 _ := hr.mono (by decide)
    have hr3 : Room 3 _ := hr.mono (by decide)
    exact ⟨_, (pss_cons (ps_set (i := 1) sc__law_drawn.nd rfl (by first | exact Or.inl rfl | exact Or.inr rfl) (pe_ix ix_seq (pe_tup (pa_cons pe_int (pa_cons pe_int (pa_cons pe_int (pa_cons (pe_op opx_pow pe_int pe_int) pa_nil))))) (pe_callX c__law_take_2 hr2 (takes_of rfl rfl rfl rfl) (pa_cons (pv 0) (pa_cons pe_int pa_nil))) (fun _ _ => rfl))) (pss_one (ps_ret (pe_callX c__law_ratio_2 hr2 (takes_of rfl rfl rfl rfl) (pa_cons (pe_callX c__law_sized_1 hr3 (takes_of rfl rfl rfl rfl) (pa_cons (pv 0) pa_nil)) (pa_cons (pe_op opx_add pe_int (pe_callX c__law_take_2 hr2 (takes_of rfl rfl rfl rfl) (pa_cons (pv 0) (pa_cons (pv 1) pa_nil)))) pa_nil)))))),
      (sv_seq (sv_set (ev_op opd_ix (ev_tup (ea_cons (ev_int _) (ea_cons (ev_int _) (ea_cons (ev_int _) (ea_cons (ev_op opd_pow (ev_int _) (ev_int _)) ea_nil))))) (ev_callH (ea_cons (ev_int _) ea_nil)))) (sv_ret (ev_call (ea_cons (ev_callH ea_nil) (ea_cons (ev_op opd_add (ev_int _) (ev_callH (ea_cons ev_var ea_nil))) ea_nil)) nil_ds)))⟩)
/-! _law_is_due -/
def m__law_is_due : Py.Env → Out :=
  (sSeq ((sIf ((tfOr ((tfNot ((tfT ((eUn (dIsi "tuple") (eVar 0))))))) ((tfOr ((tfB (eBin dNe ((aF dLen ((aCons (eVar 0) aNil)))) (eC (.int 2))))) ((tfOr ((tfNot ((tfT ((eCall 1 f__law_int [] ((aCons ((eBin dIx (eVar 0) (eC (.int 0)))) aNil)))))))) ((tfNot ((tfT ((eCall 1 f__law_int [] ((aCons ((eBin dIx (eVar 0) (eC (.int 1)))) aNil)))))))))))))) ((sRet (eC (.bl false)))) (sNext))) ((sRet ((eAnd ((eBin dGe ((eBin dIx (eVar 0) (eC (.int 1)))) (eC (.int 1)))) ((eBin dEq ((eCall 2 f__law_gcd [] ((aCons ((eBin dIx (eVar 0) (eC (.int 0)))) (aCons ((eBin dIx (eVar 0) (eC (.int 1)))) aNil))))) (eC (.int 1)))))))))
def f__law_is_due : List D → Rf D := runF 1 m__law_is_due
theorem sc__law_is_due : FnScope ["thing"] ["thing"] (defScope st__law_is_due) := ⟨rfl, rfl, rfl, by decide +kernel, rfl, by decide +kernel, by decide +kernel⟩
theorem d__law_is_due {P : Program} {w : World} {Γ : Gm} {mg : Str → Option Value} {base : Heap} {f : Addr} {fd : FuncData} (F : FunD Γ.K "_law_is_due" "_law_is_due" (defArgs st__law_is_due) (defBody st__law_is_due) (defScope st__law_is_due) [] [] f fd) (T : Tx Γ mg) (c__law_int_1 : OkC P w Γ.K mg base "_law_int" [] 1 (spP Γ 1 f__law_int)) (c__law_gcd_2 : OkC P w Γ.K mg base "_law_gcd" [] 1 (spP Γ 2 f__law_gcd)) :
    FnOk P w Γ.K mg base (L2.CX P w) 2 f fd ["thing"] (spP Γ 1 f__law_is_due) :=
  okP (dvs := []) (N := ["thing"]) (ps := ["thing"]) (k := 1) (st := st__law_is_due) (x := "_law_is_due") (qual := "_law_is_due") [] m__law_is_due F sc__law_is_due (by decide) (fun cdv A outer s H E S0 hr => by
    have hr1 : Room 1 _ := hr.mono (by decide)
    exact ⟨_, (pss_cons (ps_if (PW.pt (pw_or (pt_not (pt_truth (pe_callB call_isi rfl T.n_isinstance bt_isinstance (pa_cons (pv 0) (pa_cons (pe_bltn (v := .ty "tuple") rfl T.n_tuple bt_tuple rfl) pa_nil))) (fun _ => rfl))) (pw_or (pt_cmpR (op_neD (hu64 hr)) (pe_callB call_len rfl T.n_len bt_len (pa_cons (pv 0) pa_nil)) pe_int (nomark _)) (pw_or (pt_not (pt_truth (pe_callX c__law_int_1 hr1 (takes_of rfl rfl rfl rfl) (pa_cons (pe_ix ix_seq (pv 0) pe_int (fun _ _ => rfl)) pa_nil)) (fun _ => rfl))) (pw_or1 (pt_not (pt_truth (pe_callX c__law_int_1 hr1 (takes_of rfl rfl rfl rfl) (pa_cons (pe_ix ix_seq (pv 0) pe_int (fun _ _ => rfl)) pa_nil)) (fun _ => rfl)))))))) (pss_one (ps_ret pe_bl)) pss_nil) (pss_one (ps_ret (pe_and (pe_cmpR op_ge (pe_ix ix_seq (pv 0) pe_int (fun _ _ => rfl)) pe_int (nomark _)) (pe_one (pe_cmpR (op_eqD (hu64 hr)) (pe_callX c__law_gcd_2 hr1 (takes_of rfl rfl rfl rfl) (pa_cons (pe_ix ix_seq (pv 0) pe_int (fun _ _ => rfl)) (pa_cons (pe_ix ix_seq (pv 0) pe_int (fun _ _ => rfl)) pa_nil))) pe_int (nomark _))))))),
      (sv_seq (sv_if (et_or (et_not (et_tru (ev_isi ev_var))) (et_or (et_test (ev_op opd_ne (ev_cb cad_len (ea_cons ev_var ea_nil)) (ev_int _))) (et_or (et_not (et_tru (ev_call (ea_cons (ev_op opd_ix ev_var (ev_int _)) ea_nil) nil_ds))) (et_not (et_tru (ev_call (ea_cons (ev_op opd_ix ev_var (ev_int _)) ea_nil) nil_ds)))))) (sv_ret (ev_bl _)) sv_next) (sv_ret (ev_andV (ev_op opd_ge (ev_op opd_ix ev_var (ev_int _)) (ev_int _)) (ev_op opd_eq (ev_call (ea_cons (ev_op opd_ix ev_var (ev_int _)) (ea_cons (ev_op opd_ix ev_var (ev_int _)) ea_nil)) nil_ds) (ev_int _)))))⟩)
/-! _law_spoiled -/
def m__law_spoiled : Py.Env → Out :=
  (sSeq ((sSet 2 ((eCallH 0 2 f__law_take ((aCons (eC (.int 10)) aNil)))))) ((sSeq ((sIf ((tfB (eBin dEq (eVar 2) (eC (.int 0))))) ((sRet ((aF dLst ((aCons ((eBin dIx (eVar 1) (eC (.int 0)))) (aCons ((eBin dIx (eVar 1) (eC (.int 1)))) aNil))))))) (sNext))) ((sSeq ((sIf ((tfB (eBin dEq (eVar 2) (eC (.int 1))))) ((sRet ((aF dTup ((aCons ((eBin dMul (eC (.int 2)) ((eBin dIx (eVar 1) (eC (.int 0)))))) (aCons ((eBin dMul (eC (.int 2)) ((eBin dIx (eVar 1) (eC (.int 1)))))) aNil))))))) (sNext))) ((sSeq ((sIf ((tfB (eBin dEq (eVar 2) (eC (.int 2))))) ((sRet ((aF dTup ((aCons ((eBin dIx (eVar 1) (eC (.int 0)))) (aCons ((eUn dNeg ((eBin dIx (eVar 1) (eC (.int 1)))))) aNil))))))) (sNext))) ((sSeq ((sIf ((tfB (eBin dEq (eVar 2) (eC (.int 3))))) ((sRet ((aF dTup ((aCons ((eBin dIx (eVar 1) (eC (.int 0)))) (aCons (eC (.int 0)) aNil))))))) (sNext))) ((sSeq ((sIf ((tfB (eBin dEq (eVar 2) (eC (.int 4))))) ((sRet ((aF dTup ((aCons ((eBin dIx (eVar 1) (eC (.int 0)))) (aCons ((eBin dIx (eVar 1) (eC (.int 1)))) (aCons (eC (.int 1)) aNil)))))))) (sNext))) ((sSeq ((sIf ((tfB (eBin dEq (eVar 2) (eC (.int 5))))) ((sRet ((aF dTup ((aCons ((eBin dIx (eVar 1) (eC (.int 0)))) aNil)))))) (sNext))) ((sSeq ((sIf ((tfB (eBin dEq (eVar 2) (eC (.int 6))))) ((sRet ((aF dTup ((aCons ((eCallH 0 1 f__law_odd (aNil))) (aCons ((eBin dIx (eVar 1) (eC (.int 1)))) aNil))))))) (sNext))) ((sSeq ((sIf ((tfB (eBin dEq (eVar 2) (eC (.int 7))))) ((sRet ((aF dTup ((aCons ((eBin dIx (eVar 1) (eC (.int 0)))) (aCons ((eCallH 0 1 f__law_odd (aNil))) aNil))))))) (sNext))) ((sSeq ((sIf ((tfB (eBin dEq (eVar 2) (eC (.int 8))))) ((sRet ((aF dTup ((aCons ((eBin dAdd ((eBin dIx (eVar 1) (eC (.int 0)))) (eC (.int 1)))) (aCons ((eBin dAdd (eC (.int 1)) ((aF dAbs ((aCons ((eBin dIx (eVar 1) (eC (.int 0)))) aNil)))))) aNil))))))) (sNext))) ((sRet ((eCallH 0 1 f__law_odd (aNil))))))))))))))))))))))))
def f__law_spoiled : List D → List D → Rf (D × List D) := runH 3 m__law_spoiled
theorem sc__law_spoiled : FnScope ["hand", "one", "way"] ["hand", "one"] (defScope st__law_spoiled) := ⟨rfl, rfl, rfl, by decide +kernel, rfl, by decide +kernel, by decide +kernel⟩
theorem d__law_spoiled {P : Program} {w : World} {Γ : Gm} {mg : Str → Option Value} {base : Heap} {f : Addr} {fd : FuncData} (F : FunD Γ.K "_law_spoiled" "_law_spoiled" (defArgs st__law_spoiled) (defBody st__law_spoiled) (defScope st__law_spoiled) [] [] f fd) (T : Tx Γ mg) (c__law_take_2 : OkC P w Γ.K mg base "_law_take" [] 2 (spH Γ 2 f__law_take)) (c__law_odd_1 : OkC P w Γ.K mg base "_law_odd" [] 3 (spH Γ 1 f__law_odd)) :
    FnOk P w Γ.K mg base (L2.CX P w) 4 f fd ["hand", "one"] (spH Γ 2 f__law_spoiled) :=
  okH (dvs := []) (N := ["hand", "one", "way"]) (ps := ["hand", "one"]) (k := 3) (st := st__law_spoiled) (x := "_law_spoiled") (qual := "_law_spoiled") [0] m__law_spoiled F sc__law_spoiled (by decide) (by decide) (fun cdv A outer s H E S0 p hr => by
    have hr2 : Room 2 _ := hr.mono (by decide)
    have hr3 : Room 3 _ := hr.mono (by decide)
    exact ⟨_, (pss_cons (ps_set (i := 2) sc__law_spoiled.nd rfl (by first | exact Or.inl rfl | exact Or.inr rfl) (pe_callX c__law_take_2 hr2 (takes_of rfl rfl rfl rfl) (pa_cons (pv 0) (pa_cons pe_int pa_nil)))) (pss_cons (ps_if (pt_cmpR (op_eqD (hu64 hr)) (pv 2) pe_int (nomark _)) (pss_one (ps_ret (pe_lst (pa_cons (pe_ix ix_seq (pv 1) pe_int (fun _ _ => rfl)) (pa_cons (pe_ix ix_seq (pv 1) pe_int (fun _ _ => rfl)) pa_nil))))) pss_nil) (pss_cons (ps_if (pt_cmpR (op_eqD (hu64 hr)) (pv 2) pe_int (nomark _)) (pss_one (ps_ret (pe_tup (pa_cons (pe_op opx_mul pe_int (pe_ix ix_seq (pv 1) pe_int (fun _ _ => rfl))) (pa_cons (pe_op opx_mul pe_int (pe_ix ix_seq (pv 1) pe_int (fun _ _ => rfl))) pa_nil))))) pss_nil) (pss_cons (ps_if (pt_cmpR (op_eqD (hu64 hr)) (pv 2) pe_int (nomark _)) (pss_one (ps_ret (pe_tup (pa_cons (pe_ix ix_seq (pv 1) pe_int (fun _ _ => rfl)) (pa_cons (pe_un un_neg (pe_ix ix_seq (pv 1) pe_int (fun _ _ => rfl))) pa_nil))))) pss_nil) (pss_cons (ps_if (pt_cmpR (op_eqD (hu64 hr)) (pv 2) pe_int (nomark _)) (pss_one (ps_ret (pe_tup (pa_cons (pe_ix ix_seq (pv 1) pe_int (fun _ _ => rfl)) (pa_cons pe_int pa_nil))))) pss_nil) (pss_cons (ps_if (pt_cmpR (op_eqD (hu64 hr)) (pv 2) pe_int (nomark _)) (pss_one (ps_ret (pe_tup (pa_cons (pe_ix ix_seq (pv 1) pe_int (fun _ _ => rfl)) (pa_cons (pe_ix ix_seq (pv 1) pe_int (fun _ _ => rfl)) (pa_cons pe_int pa_nil)))))) pss_nil) (pss_cons (ps_if (pt_cmpR (op_eqD (hu64 hr)) (pv 2) pe_int (nomark _)) (pss_one (ps_ret (pe_tup (pa_cons (pe_ix ix_seq (pv 1) pe_int (fun _ _ => rfl)) pa_nil)))) pss_nil) (pss_cons (ps_if (pt_cmpR (op_eqD (hu64 hr)) (pv 2) pe_int (nomark _)) (pss_one (ps_ret (pe_tup (pa_cons (pe_callX c__law_odd_1 hr3 (takes_of rfl rfl rfl rfl) (pa_cons (pv 0) pa_nil)) (pa_cons (pe_ix ix_seq (pv 1) pe_int (fun _ _ => rfl)) pa_nil))))) pss_nil) (pss_cons (ps_if (pt_cmpR (op_eqD (hu64 hr)) (pv 2) pe_int (nomark _)) (pss_one (ps_ret (pe_tup (pa_cons (pe_ix ix_seq (pv 1) pe_int (fun _ _ => rfl)) (pa_cons (pe_callX c__law_odd_1 hr3 (takes_of rfl rfl rfl rfl) (pa_cons (pv 0) pa_nil)) pa_nil))))) pss_nil) (pss_cons (ps_if (pt_cmpR (op_eqD (hu64 hr)) (pv 2) pe_int (nomark _)) (pss_one (ps_ret (pe_tup (pa_cons (pe_op opx_add (pe_ix ix_seq (pv 1) pe_int (fun _ _ => rfl)) pe_int) (pa_cons (pe_op opx_add pe_int (pe_callB call_abs rfl T.n_abs bt_abs (pa_cons (pe_ix ix_seq (pv 1) pe_int (fun _ _ => rfl)) pa_nil))) pa_nil))))) pss_nil) (pss_one (ps_ret (pe_callX c__law_odd_1 hr3 (takes_of rfl rfl rfl rfl) (pa_cons (pv 0) pa_nil)))))))))))))),
      (sv_seq (sv_set (ev_callH (ea_cons (ev_int _) ea_nil))) (sv_seq (sv_if (et_test (ev_op opd_eq ev_var (ev_int _))) (sv_ret (ev_lst (ea_cons (ev_op opd_ix ev_var (ev_int _)) (ea_cons (ev_op opd_ix ev_var (ev_int _)) ea_nil)))) sv_next) (sv_seq (sv_if (et_test (ev_op opd_eq ev_var (ev_int _))) (sv_ret (ev_tup (ea_cons (ev_op opd_mul (ev_int _) (ev_op opd_ix ev_var (ev_int _))) (ea_cons (ev_op opd_mul (ev_int _) (ev_op opd_ix ev_var (ev_int _))) ea_nil)))) sv_next) (sv_seq (sv_if (et_test (ev_op opd_eq ev_var (ev_int _))) (sv_ret (ev_tup (ea_cons (ev_op opd_ix ev_var (ev_int _)) (ea_cons (ev_un und_neg (ev_op opd_ix ev_var (ev_int _))) ea_nil)))) sv_next) (sv_seq (sv_if (et_test (ev_op opd_eq ev_var (ev_int _))) (sv_ret (ev_tup (ea_cons (ev_op opd_ix ev_var (ev_int _)) (ea_cons (ev_int _) ea_nil)))) sv_next) (sv_seq (sv_if (et_test (ev_op opd_eq ev_var (ev_int _))) (sv_ret (ev_tup (ea_cons (ev_op opd_ix ev_var (ev_int _)) (ea_cons (ev_op opd_ix ev_var (ev_int _)) (ea_cons (ev_int _) ea_nil))))) sv_next) (sv_seq (sv_if (et_test (ev_op opd_eq ev_var (ev_int _))) (sv_ret (ev_tup (ea_cons (ev_op opd_ix ev_var (ev_int _)) ea_nil))) sv_next) (sv_seq (sv_if (et_test (ev_op opd_eq ev_var (ev_int _))) (sv_ret (ev_tup (ea_cons (ev_callH ea_nil) (ea_cons (ev_op opd_ix ev_var (ev_int _)) ea_nil)))) sv_next) (sv_seq (sv_if (et_test (ev_op opd_eq ev_var (ev_int _))) (sv_ret (ev_tup (ea_cons (ev_op opd_ix ev_var (ev_int _)) (ea_cons (ev_callH ea_nil) ea_nil)))) sv_next) (sv_seq (sv_if (et_test (ev_op opd_eq ev_var (ev_int _))) (sv_ret (ev_tup (ea_cons (ev_op opd_add (ev_op opd_ix ev_var (ev_int _)) (ev_int _)) (ea_cons (ev_op opd_add (ev_int _) (ev_cb cad_abs (ea_cons (ev_op opd_ix ev_var (ev_int _)) ea_nil))) ea_nil)))) sv_next) (sv_ret (ev_callH ea_nil))))))))))))⟩)
/-! _law_divided -/
def m__law_divided : Py.Env → Out :=
  (sSeq ((sTry 2 (isaL [(0, false), (1, true)]) ((sSet 3 ((eCall 2 f_divide_ratios [] ((aCons (eVar 0) (aCons (eVar 1) aNil))))))) (fun e => (sSet 3 ((aF dLst ((aCons ((eXf e 1 "what")) (aCons ((eFam e [1])) aNil))))))))) ((sRet (eVar 3))))
def f__law_divided : List D → Rf D := runF 4 m__law_divided
theorem sc__law_divided : FnScope ["one", "other", "wrong", "told"] ["one", "other"] (defScope st__law_divided) := ⟨rfl, rfl, rfl, by decide +kernel, rfl, by decide +kernel, by decide +kernel⟩
theorem d__law_divided {P : Program} {w : World} {Γ : Gm} {mg : Str → Option Value} {base : Heap} {f : Addr} {fd : FuncData} (F : FunD Γ.K "_law_divided" "_law_divided" (defArgs st__law_divided) (defBody st__law_divided) (defScope st__law_divided) [] [] f fd) (T : Tx Γ mg) (c_divide_ratios_2 : OkC P w Γ.K mg base "divide_ratios" [] 3 (spP Γ 2 f_divide_ratios)) (c__law_family_1 : OkF P w Γ.K mg base "_law_family" 1 (spFam Γ.K [.ref (Γ.cl 0), .type "ValueError"])) :
    FnOk P w Γ.K mg base (L2.CX P w) 4 f fd ["one", "other"] (spP Γ 2 f__law_divided) :=
  okP (dvs := []) (N := ["one", "other", "wrong", "told"]) (ps := ["one", "other"]) (k := 3) (st := st__law_divided) (x := "_law_divided") (qual := "_law_divided") [] m__law_divided F sc__law_divided (by decide) (fun cdv A outer s H E S0 hr => by
    have hr1 : Room 1 _ := hr.mono (by decide)
    have hr3 : Room 3 _ := hr.mono (by decide)
    exact ⟨_, (pss_cons (ps_try_as (i := 2) rfl rfl sc__law_divided.nd rfl rfl ⟨rfl, by decide, Or.inl T.c_BadRatio⟩ (takes_of rfl rfl rfl rfl) (fun W pn xe tkW poW => (pss_one (ps_set (i := 3) sc__law_divided.nd rfl (by first | exact Or.inl rfl | exact Or.inr rfl) (pe_callX c_divide_ratios_2 hr3 tkW (pa_cons (pv 0) (pa_cons (pv 1) pa_nil)))))) (fun a oe cls d pn hz hf => (pss_one (ps_set (i := 3) sc__law_divided.nd rfl (by first | exact Or.inl rfl | exact Or.inr rfl) (pe_lst (pa_cons (pe_xf T.xf_BadRatio T.no_BadRatio_what hz hf (pv 2)) (pa_cons (pe_fam c__law_family_1 hr1 hz (pa_cons (pv 2) pa_nil)) pa_nil))))))) (pss_one (ps_ret (pv 3)))),
      (sv_seq (sv_try rfl (fun W => (sv_set (ev_call (ea_cons ev_var (ea_cons ev_var ea_nil)) nil_ds))) (fun ⟨_, a, cls, dx, e⟩ hq => by cases hq; exact (sv_set (ev_lst (ea_cons (ev_xf (q := ⟨2, a, cls, dx, e⟩) rfl) (ea_cons (ev_fam (q := ⟨2, a, cls, dx, e⟩) (cs := [1]) rfl T.fam_BadRatio) ea_nil))))) (isaL_ok T.i_BadRatio)) (sv_ret ev_var))⟩)
/-! _law_made -/
def m__law_made : Py.Env → Out :=
  (sSeq ((sTry 3 (isaL [(0, false), (1, true)]) ((sSet 4 ((eIf ((tfT (eVar 2))) ((eCall 2 f_make_ratio [(.int 1)] ((aCons (eVar 0) aNil)))) ((eCall 2 f_make_ratio [] ((aCons (eVar 0) (aCons (eVar 1) aNil))))))))) (fun e => (sSet 4 ((aF dLst ((aCons ((eXf e 1 "what")) (aCons ((eFam e [1])) aNil))))))))) ((sRet (eVar 4))))
def f__law_made : List D → Rf D := runF 5 m__law_made
theorem sc__law_made : FnScope ["top", "bottom", "short", "wrong", "told"] ["top", "bottom", "short"] (defScope st__law_made) := ⟨rfl, rfl, rfl, by decide +kernel, rfl, by decide +kernel, by decide +kernel⟩
theorem d__law_made {P : Program} {w : World} {Γ : Gm} {mg : Str → Option Value} {base : Heap} {f : Addr} {fd : FuncData} (F : FunD Γ.K "_law_made" "_law_made" (defArgs st__law_made) (defBody st__law_made) (defScope st__law_made) [] [] f fd) (T : Tx Γ mg) (c_make_ratio_1 : OkC P w Γ.K mg base "make_ratio" [(.int 1)] 3 (spP Γ 2 f_make_ratio)) (c_make_ratio_2 : OkC P w Γ.K mg base "make_ratio" [] 3 (spP Γ 2 f_make_ratio)) (c__law_family_1 : OkF P w Γ.K mg base "_law_family" 1 (spFam Γ.K [.ref (Γ.cl 0), .type "ValueError"])) :
    FnOk P w Γ.K mg base (L2.CX P w) 4 f fd ["top", "bottom", "short"] (spP Γ 3 f__law_made) :=
  okP (dvs := []) (N := ["top", "bottom", "short", "wrong", "told"]) (ps := ["top", "bottom", "short"]) (k := 3) (st := st__law_made) (x := "_law_made") (qual := "_law_made") [] m__law_made F sc__law_made (by decide) (fun cdv A outer s H E S0 hr => by
    have hr1 : Room 1 _ := hr.mono (by decide)
    have hr3 : Room 3 _ := hr.mono (by decide)
    exact ⟨_, (pss_cons (ps_try_as (i := 3) rfl rfl sc__law_made.nd rfl rfl ⟨rfl, by decide, Or.inl T.c_BadRatio⟩ (takes_of rfl rfl rfl rfl) (fun W pn xe tkW poW => (pss_one (ps_set (i := 4) sc__law_made.nd rfl (by first | exact Or.inl rfl | exact Or.inr rfl) (pe_ifExp (pt_truth (pv 2) (fun _ => rfl)) (pe_callX c_make_ratio_1 hr3 tkW (pa_cons (pv 0) pa_nil)) (pe_callX c_make_ratio_2 hr3 tkW (pa_cons (pv 0) (pa_cons (pv 1) pa_nil))))))) (fun a oe cls d pn hz hf => (pss_one (ps_set (i := 4) sc__law_made.nd rfl (by first | exact Or.inl rfl | exact Or.inr rfl) (pe_lst (pa_cons (pe_xf T.xf_BadRatio T.no_BadRatio_what hz hf (pv 3)) (pa_cons (pe_fam c__law_family_1 hr1 hz (pa_cons (pv 3) pa_nil)) pa_nil))))))) (pss_one (ps_ret (pv 4)))),
      (sv_seq (sv_try rfl (fun W => (sv_set (ev_if (et_tru ev_var) (ev_call (ea_cons ev_var ea_nil) (fun _ => (.cons (.int _) .nil))) (ev_call (ea_cons ev_var (ea_cons ev_var ea_nil)) nil_ds)))) (fun ⟨_, a, cls, dx, e⟩ hq => by cases hq; exact (sv_set (ev_lst (ea_cons (ev_xf (q := ⟨3, a, cls, dx, e⟩) rfl) (ea_cons (ev_fam (q := ⟨3, a, cls, dx, e⟩) (cs := [1]) rfl T.fam_BadRatio) ea_nil))))) (isaL_ok T.i_BadRatio)) (sv_ret ev_var))⟩)
/-! _law_made_due -/
def m__law_made_due : Py.Env → Out :=
  (sSeq ((sIf ((tfNot ((tfT ((eCall 1 f__law_int [] ((aCons (eVar 0) aNil)))))))) ((sRet ((aF dLst ((aCons (eC (.str "top")) (aCons (eC (.bl true)) aNil))))))) (sNext))) ((sSeq ((sIf ((tfOr ((tfNot ((tfT ((eCall 1 f__law_int [] ((aCons (eVar 1) aNil)))))))) ((tfB (eBin dEq (eVar 1) (eC (.int 0))))))) ((sRet ((aF dLst ((aCons (eC (.str "bottom")) (aCons (eC (.bl true)) aNil))))))) (sNext))) ((sRet ((eCall 2 f__law_ratio [] ((aCons (eVar 0) (aCons (eVar 1) aNil))))))))))
def f__law_made_due : List D → Rf D := runF 2 m__law_made_due
theorem sc__law_made_due : FnScope ["top", "bottom"] ["top", "bottom"] (defScope st__law_made_due) := ⟨rfl, rfl, rfl, by decide +kernel, rfl, by decide +kernel, by decide +kernel⟩
theorem d__law_made_due {P : Program} {w : World} {Γ : Gm} {mg : Str → Option Value} {base : Heap} {f : Addr} {fd : FuncData} (F : FunD Γ.K "_law_made_due" "_law_made_due" (defArgs st__law_made_due) (defBody st__law_made_due) (defScope st__law_made_due) [] [] f fd) (T : Tx Γ mg) (c__law_int_1 : OkC P w Γ.K mg base "_law_int" [] 1 (spP Γ 1 f__law_int)) (c__law_ratio_2 : OkC P w Γ.K mg base "_law_ratio" [] 2 (spP Γ 2 f__law_ratio)) :
    FnOk P w Γ.K mg base (L2.CX P w) 3 f fd ["top", "bottom"] (spP Γ 2 f__law_made_due) :=
  okP (dvs := []) (N := ["top", "bottom"]) (ps := ["top", "bottom"]) (k := 2) (st := st__law_made_due) (x := "_law_made_due") (qual := "_law_made_due") [] m__law_made_due F sc__law_made_due (by decide) (fun cdv A outer s H E S0 hr => by
    have hr1 : Room 1 _ := hr.mono (by decide)
    have hr2 : Room 2 _ := hr.mono (by decide)
    exact ⟨_, (pss_cons (ps_if (pt_not (pt_truth (pe_callX c__law_int_1 hr1 (takes_of rfl rfl rfl rfl) (pa_cons (pv 0) pa_nil)) (fun _ => rfl))) (pss_one (ps_ret (pe_lst (pa_cons pe_str (pa_cons pe_bl pa_nil))))) pss_nil) (pss_cons (ps_if (PW.pt (pw_or (pt_not (pt_truth (pe_callX c__law_int_1 hr1 (takes_of rfl rfl rfl rfl) (pa_cons (pv 1) pa_nil)) (fun _ => rfl))) (pw_or1 (pt_cmpR (op_eqD (hu64 hr)) (pv 1) pe_int (nomark _))))) (pss_one (ps_ret (pe_lst (pa_cons pe_str (pa_cons pe_bl pa_nil))))) pss_nil) (pss_one (ps_ret (pe_callX c__law_ratio_2 hr2 (takes_of rfl rfl rfl rfl) (pa_cons (pv 0) (pa_cons (pv 1) pa_nil))))))),
      (sv_seq (sv_if (et_not (et_tru (ev_call (ea_cons ev_var ea_nil) nil_ds))) (sv_ret (ev_lst (ea_cons (ev_str _) (ea_cons (ev_bl _) ea_nil)))) sv_next) (sv_seq (sv_if (et_or (et_not (et_tru (ev_call (ea_cons ev_var ea_nil) nil_ds))) (et_test (ev_op opd_eq ev_var (ev_int _)))) (sv_ret (ev_lst (ea_cons (ev_str _) (ea_cons (ev_bl _) ea_nil)))) sv_next) (sv_ret (ev_call (ea_cons ev_var (ea_cons ev_var ea_nil)) nil_ds))))⟩)
/-! _law_couples -/
def m__law_couples : Py.Env → Out :=
  (sSeq ((sSet 1 ((eCallH 0 1 f__law_drawn (aNil))))) ((sSeq ((sSet 2 ((eIf ((tfB (eBin dEq ((eCallH 0 2 f__law_take ((aCons (eC (.int 5)) aNil)))) (eC (.int 0))))) (eVar 1) ((eCallH 0 1 f__law_drawn (aNil))))))) ((sSeq ((sSet 3 ((aF dTup ((aCons ((eUn dNeg ((eBin dIx (eVar 2) (eC (.int 0)))))) (aCons ((eBin dIx (eVar 2) (eC (.int 1)))) aNil))))))) ((sSeq ((sIf ((tfNot ((tfT ((eCall 2 f__law_same [] ((aCons ((eCall 2 f_add_ratios [] ((aCons (eVar 1) (aCons (eVar 2) aNil))))) (aCons ((eCall 2 f__law_plus [] ((aCons (eVar 1) (aCons (eVar 2) aNil))))) aNil))))))))) ((sRet (eC (.bl false)))) (sNext))) ((sSeq ((sIf ((tfNot ((tfT ((eCall 2 f__law_same [] ((aCons ((eCall 2 f_subtract_ratios [] ((aCons (eVar 1) (aCons (eVar 2) aNil))))) (aCons ((eCall 2 f__law_plus [] ((aCons (eVar 1) (aCons (eVar 3) aNil))))) aNil))))))))) ((sRet (eC (.bl false)))) (sNext))) ((sSeq ((sIf ((tfNot ((tfT ((eCall 2 f__law_same [] ((aCons ((eCall 2 f_multiply_ratios [] ((aCons (eVar 1) (aCons (eVar 2) aNil))))) (aCons ((eCall 2 f__law_times [] ((aCons (eVar 1) (aCons (eVar 2) aNil))))) aNil))))))))) ((sRet (eC (.bl false)))) (sNext))) ((sSeq ((sSet 4 ((eIf ((tfB (eBin dEq ((eBin dIx (eVar 2) (eC (.int 0)))) (eC (.int 0))))) ((aF dLst ((aCons (eC (.str "zero")) (aCons (eC (.bl true)) aNil))))) ((eCall 2 f__law_ratio [] ((aCons ((eBin dMul ((eBin dIx (eVar 1) (eC (.int 0)))) ((eBin dIx (eVar 2) (eC (.int 1)))))) (aCons ((eBin dMul ((eBin dIx (eVar 1) (eC (.int 1)))) ((eBin dIx (eVar 2) (eC (.int 0)))))) aNil))))))))) ((sSeq ((sIf ((tfB (eBin dNe ((eCall 2 f__law_divided [] ((aCons (eVar 1) (aCons (eVar 2) aNil))))) (eVar 4)))) ((sRet (eC (.bl false)))) (sNext))) ((sSeq ((sSet 5 ((eIf ((tfT ((eCall 2 f__law_below [] ((aCons (eVar 2) (aCons (eVar 1) aNil))))))) (eC (.int 1)) ((eIf ((tfT ((eCall 2 f__law_below [] ((aCons (eVar 1) (aCons (eVar 2) aNil))))))) ((eUn dNeg (eC (.int 1)))) (eC (.int 0)))))))) ((sSeq ((sSet 6 ((eCall 2 f_compare_ratios [] ((aCons (eVar 1) (aCons (eVar 2) aNil))))))) ((sSeq ((sIf ((tfOr ((tfNot ((tfT ((eCall 1 f__law_int [] ((aCons (eVar 6) aNil)))))))) ((tfB (eBin dNe (eVar 6) (eVar 5)))))) ((sRet (eC (.bl false)))) (sNext))) ((sSeq ((sSet 7 ((eCall 1 f_floor_ratio [] ((aCons (eVar 1) aNil)))))) ((sRet ((eAnd ((eCall 1 f__law_int [] ((aCons (eVar 7) aNil)))) ((eAnd ((eBin dLe ((eBin dMul (eVar 7) ((eBin dIx (eVar 1) (eC (.int 1)))))) ((eBin dIx (eVar 1) (eC (.int 0)))))) ((eBin dLt ((eBin dIx (eVar 1) (eC (.int 0)))) ((eBin dMul ((eBin dAdd (eVar 7) (eC (.int 1)))) ((eBin dIx (eVar 1) (eC (.int 1)))))))))))))))))))))))))))))))))))))
def f__law_couples : List D → List D → Rf (D × List D) := runH 8 m__law_couples
theorem sc__law_couples : FnScope ["hand", "one", "other", "minus", "due", "order", "told", "whole"] ["hand"] (defScope st__law_couples) := ⟨rfl, rfl, rfl, by decide +kernel, rfl, by decide +kernel, by decide +kernel⟩
theorem d__law_couples {P : Program} {w : World} {Γ : Gm} {mg : Str → Option Value} {base : Heap} {f : Addr} {fd : FuncData} (F : FunD Γ.K "_law_couples" "_law_couples" (defArgs st__law_couples) (defBody st__law_couples) (defScope st__law_couples) [] [] f fd) (T : Tx Γ mg) (c__law_drawn_1 : OkC P w Γ.K mg base "_law_drawn" [] 4 (spH Γ 1 f__law_drawn)) (c__law_take_2 : OkC P w Γ.K mg base "_law_take" [] 2 (spH Γ 2 f__law_take)) (c__law_same_2 : OkC P w Γ.K mg base "_law_same" [] 2 (spP Γ 2 f__law_same)) (c_add_ratios_2 : OkC P w Γ.K mg base "add_ratios" [] 2 (spP Γ 2 f_add_ratios)) (c__law_plus_2 : OkC P w Γ.K mg base "_law_plus" [] 3 (spP Γ 2 f__law_plus)) (c_subtract_ratios_2 : OkC P w Γ.K mg base "subtract_ratios" [] 2 (spP Γ 2 f_subtract_ratios)) (c_multiply_ratios_2 : OkC P w Γ.K mg base "multiply_ratios" [] 2 (spP Γ 2 f_multiply_ratios)) (c__law_times_2 : OkC P w Γ.K mg base "_law_times" [] 3 (spP Γ 2 f__law_times)) (c__law_ratio_2 : OkC P w Γ.K mg base "_law_ratio" [] 2 (spP Γ 2 f__law_ratio)) (c__law_divided_2 : OkC P w Γ.K mg base "_law_divided" [] 4 (spP Γ 2 f__law_divided)) (c__law_below_2 : OkC P w Γ.K mg base "_law_below" [] 1 (spP Γ 2 f__law_below)) (c_compare_ratios_2 : OkC P w Γ.K mg base "compare_ratios" [] 1 (spP Γ 2 f_compare_ratios)) (c__law_int_1 : OkC P w Γ.K mg base "_law_int" [] 1 (spP Γ 1 f__law_int)) (c_floor_ratio_1 : OkC P w Γ.K mg base "floor_ratio" [] 1 (spP Γ 1 f_floor_ratio)) :
    FnOk P w Γ.K mg base (L2.CX P w) 5 f fd ["hand"] (spH Γ 1 f__law_couples) :=
  okH (dvs := []) (N := ["hand", "one", "other", "minus", "due", "order", "told", "whole"]) (ps := ["hand"]) (k := 4) (st := st__law_couples) (x := "_law_couples") (qual := "_law_couples") [0] m__law_couples F sc__law_couples (by decide) (by decide) (fun cdv A outer s H E S0 p hr => by
    have hr1 : Room 1 _ := hr.mono (by decide)
    have hr2 : Room 2 _ := hr.mono (by decide)
    have hr3 : Room 3 _ := hr.mono (by decide)
    have hr4 : Room 4 _ := hr.mono (by decide)
    exact ⟨_, (pss_cons (ps_set (i := 1) sc__law_couples.nd rfl (by first | exact Or.inl rfl | exact Or.inr rfl) (pe_callX c__law_drawn_1 hr4 (takes_of rfl rfl rfl rfl) (pa_cons (pv 0) pa_nil))) (pss_cons (ps_set (i := 2) sc__law_couples.nd rfl (by first | exact Or.inl rfl | exact Or.inr rfl) (pe_ifExp (pt_cmpR (op_eqD (hu64 hr)) (pe_callX c__law_take_2 hr2 (takes_of rfl rfl rfl rfl) (pa_cons (pv 0) (pa_cons pe_int pa_nil))) pe_int (nomark _)) (pv 1) (pe_callX c__law_drawn_1 hr4 (takes_of rfl rfl rfl rfl) (pa_cons (pv 0) pa_nil)))) (pss_cons (ps_set (i := 3) sc__law_couples.nd rfl (by first | exact Or.inl rfl | exact Or.inr rfl) (pe_tup (pa_cons (pe_un un_neg (pe_ix ix_seq (pv 2) pe_int (fun _ _ => rfl))) (pa_cons (pe_ix ix_seq (pv 2) pe_int (fun _ _ => rfl)) pa_nil)))) (pss_cons (ps_if (pt_not (pt_truth (pe_callX c__law_same_2 hr2 (takes_of rfl rfl rfl rfl) (pa_cons (pe_callX c_add_ratios_2 hr2 (takes_of rfl rfl rfl rfl) (pa_cons (pv 1) (pa_cons (pv 2) pa_nil))) (pa_cons (pe_callX c__law_plus_2 hr3 (takes_of rfl rfl rfl rfl) (pa_cons (pv 1) (pa_cons (pv 2) pa_nil))) pa_nil))) (fun _ => rfl))) (pss_one (ps_ret pe_bl)) pss_nil) (pss_cons (ps_if (pt_not (pt_truth (pe_callX c__law_same_2 hr2 (takes_of rfl rfl rfl rfl) (pa_cons (pe_callX c_subtract_ratios_2 hr2 (takes_of rfl rfl rfl rfl) (pa_cons (pv 1) (pa_cons (pv 2) pa_nil))) (pa_cons (pe_callX c__law_plus_2 hr3 (takes_of rfl rfl rfl rfl) (pa_cons (pv 1) (pa_cons (pv 3) pa_nil))) pa_nil))) (fun _ => rfl))) (pss_one (ps_ret pe_bl)) pss_nil) (pss_cons (ps_if (pt_not (pt_truth (pe_callX c__law_same_2 hr2 (takes_of rfl rfl rfl rfl) (pa_cons (pe_callX c_multiply_ratios_2 hr2 (takes_of rfl rfl rfl rfl) (pa_cons (pv 1) (pa_cons (pv 2) pa_nil))) (pa_cons (pe_callX c__law_times_2 hr3 (takes_of rfl rfl rfl rfl) (pa_cons (pv 1) (pa_cons (pv 2) pa_nil))) pa_nil))) (fun _ => rfl))) (pss_one (ps_ret pe_bl)) pss_nil) (pss_cons (ps_set (i := 4) sc__law_couples.nd rfl (by first | exact Or.inl rfl | exact Or.inr rfl) (pe_ifExp (pt_cmpR (op_eqD (hu64 hr)) (pe_ix ix_seq (pv 2) pe_int (fun _ _ => rfl)) pe_int (nomark _)) (pe_lst (pa_cons pe_str (pa_cons pe_bl pa_nil))) (pe_callX c__law_ratio_2 hr2 (takes_of rfl rfl rfl rfl) (pa_cons (pe_op opx_mul (pe_ix ix_seq (pv 1) pe_int (fun _ _ => rfl)) (pe_ix ix_seq (pv 2) pe_int (fun _ _ => rfl))) (pa_cons (pe_op opx_mul (pe_ix ix_seq (pv 1) pe_int (fun _ _ => rfl)) (pe_ix ix_seq (pv 2) pe_int (fun _ _ => rfl))) pa_nil))))) (pss_cons (ps_if (pt_cmpR (op_neD (hu64 hr)) (pe_callX c__law_divided_2 hr4 (takes_of rfl rfl rfl rfl) (pa_cons (pv 1) (pa_cons (pv 2) pa_nil))) (pv 4) (nomark _)) (pss_one (ps_ret pe_bl)) pss_nil) (pss_cons (ps_set (i := 5) sc__law_couples.nd rfl (by first | exact Or.inl rfl | exact Or.inr rfl) (pe_ifExp (pt_truth (pe_callX c__law_below_2 hr1 (takes_of rfl rfl rfl rfl) (pa_cons (pv 2) (pa_cons (pv 1) pa_nil))) (fun _ => rfl)) pe_int (pe_ifExp (pt_truth (pe_callX c__law_below_2 hr1 (takes_of rfl rfl rfl rfl) (pa_cons (pv 1) (pa_cons (pv 2) pa_nil))) (fun _ => rfl)) (pe_un un_neg pe_int) pe_int))) (pss_cons (ps_set (i := 6) sc__law_couples.nd rfl (by first | exact Or.inl rfl | exact Or.inr rfl) (pe_callX c_compare_ratios_2 hr1 (takes_of rfl rfl rfl rfl) (pa_cons (pv 1) (pa_cons (pv 2) pa_nil)))) (pss_cons (ps_if (PW.pt (pw_or (pt_not (pt_truth (pe_callX c__law_int_1 hr1 (takes_of rfl rfl rfl rfl) (pa_cons (pv 6) pa_nil)) (fun _ => rfl))) (pw_or1 (pt_cmpR (op_neD (hu64 hr)) (pv 6) (pv 5) (nomark _))))) (pss_one (ps_ret pe_bl)) pss_nil) (pss_cons (ps_set (i := 7) sc__law_couples.nd rfl (by first | exact Or.inl rfl | exact Or.inr rfl) (pe_callX c_floor_ratio_1 hr1 (takes_of rfl rfl rfl rfl) (pa_cons (pv 1) pa_nil))) (pss_one (ps_ret (pe_and (pe_callX c__law_int_1 hr1 (takes_of rfl rfl rfl rfl) (pa_cons (pv 7) pa_nil)) (pe_and (pe_cmpR op_le (pe_op opx_mul (pv 7) (pe_ix ix_seq (pv 1) pe_int (fun _ _ => rfl))) (pe_ix ix_seq (pv 1) pe_int (fun _ _ => rfl)) (nomark _)) (pe_one (pe_cmpR op_lt (pe_ix ix_seq (pv 1) pe_int (fun _ _ => rfl)) (pe_op opx_mul (pe_op opx_add (pv 7) pe_int) (pe_ix ix_seq (pv 1) pe_int (fun _ _ => rfl))) (nomark _))))))))))))))))))),
      (sv_seq (sv_set (ev_callH ea_nil)) (sv_seq (sv_set (ev_if (et_test (ev_op opd_eq (ev_callH (ea_cons (ev_int _) ea_nil)) (ev_int _))) ev_var (ev_callH ea_nil))) (sv_seq (sv_set (ev_tup (ea_cons (ev_un und_neg (ev_op opd_ix ev_var (ev_int _))) (ea_cons (ev_op opd_ix ev_var (ev_int _)) ea_nil)))) (sv_seq (sv_if (et_not (et_tru (ev_call (ea_cons (ev_call (ea_cons ev_var (ea_cons ev_var ea_nil)) nil_ds) (ea_cons (ev_call (ea_cons ev_var (ea_cons ev_var ea_nil)) nil_ds) ea_nil)) nil_ds))) (sv_ret (ev_bl _)) sv_next) (sv_seq (sv_if (et_not (et_tru (ev_call (ea_cons (ev_call (ea_cons ev_var (ea_cons ev_var ea_nil)) nil_ds) (ea_cons (ev_call (ea_cons ev_var (ea_cons ev_var ea_nil)) nil_ds) ea_nil)) nil_ds))) (sv_ret (ev_bl _)) sv_next) (sv_seq (sv_if (et_not (et_tru (ev_call (ea_cons (ev_call (ea_cons ev_var (ea_cons ev_var ea_nil)) nil_ds) (ea_cons (ev_call (ea_cons ev_var (ea_cons ev_var ea_nil)) nil_ds) ea_nil)) nil_ds))) (sv_ret (ev_bl _)) sv_next) (sv_seq (sv_set (ev_if (et_test (ev_op opd_eq (ev_op opd_ix ev_var (ev_int _)) (ev_int _))) (ev_lst (ea_cons (ev_str _) (ea_cons (ev_bl _) ea_nil))) (ev_call (ea_cons (ev_op opd_mul (ev_op opd_ix ev_var (ev_int _)) (ev_op opd_ix ev_var (ev_int _))) (ea_cons (ev_op opd_mul (ev_op opd_ix ev_var (ev_int _)) (ev_op opd_ix ev_var (ev_int _))) ea_nil)) nil_ds))) (sv_seq (sv_if (et_test (ev_op opd_ne (ev_call (ea_cons ev_var (ea_cons ev_var ea_nil)) nil_ds) ev_var)) (sv_ret (ev_bl _)) sv_next) (sv_seq (sv_set (ev_if (et_tru (ev_call (ea_cons ev_var (ea_cons ev_var ea_nil)) nil_ds)) (ev_int _) (ev_if (et_tru (ev_call (ea_cons ev_var (ea_cons ev_var ea_nil)) nil_ds)) (ev_un und_neg (ev_int _)) (ev_int _)))) (sv_seq (sv_set (ev_call (ea_cons ev_var (ea_cons ev_var ea_nil)) nil_ds)) (sv_seq (sv_if (et_or (et_not (et_tru (ev_call (ea_cons ev_var ea_nil) nil_ds))) (et_test (ev_op opd_ne ev_var ev_var))) (sv_ret (ev_bl _)) sv_next) (sv_seq (sv_set (ev_call (ea_cons ev_var ea_nil) nil_ds)) (sv_ret (ev_andV (ev_call (ea_cons ev_var ea_nil) nil_ds) (ev_andV (ev_op opd_le (ev_op opd_mul ev_var (ev_op opd_ix ev_var (ev_int _))) (ev_op opd_ix ev_var (ev_int _))) (ev_op opd_lt (ev_op opd_ix ev_var (ev_int _)) (ev_op opd_mul (ev_op opd_add ev_var (ev_int _)) (ev_op opd_ix ev_var (ev_int _)))))))))))))))))))⟩)
/-! _law_rows -/
def e1__law_rows : Py.Env → Rs D :=
  (eCallH 0 1 f__law_drawn (aNil))
def m__law_rows : Py.Env → Out :=
  (sSeq ((sSet 1 ((eLc (rng1M ((aCons ((eCallH 0 2 f__law_take ((aCons (eC (.int 6)) aNil)))) aNil))) (nmG 5) (lYes) (e1__law_rows) [5])))) ((sSeq ((sSet 2 ((aF dList ((aCons (eVar 1) aNil)))))) ((sSeq ((sSet 3 ((eCall 1 f_sum_ratios [] ((aCons ((eIf ((tfT ((eCallH 0 2 f__law_take ((aCons (eC (.int 2)) aNil)))))) (eVar 1) ((aF dTuple ((aCons (eVar 1) aNil)))))) aNil)))))) ((sSeq ((sIf ((tfNot ((tfT ((eCall 2 f__law_same [] ((aCons (eVar 3) (aCons ((eCall 1 f__law_total [] ((aCons (eVar 2) aNil)))) aNil))))))))) ((sRet (eC (.bl false)))) (sNext))) ((sSeq ((sSet 4 ((eCall 1 f_common_bottom [] ((aCons ((eIf ((tfT ((eCallH 0 2 f__law_take ((aCons (eC (.int 2)) aNil)))))) (eVar 1) ((aF dTuple ((aCons (eVar 1) aNil)))))) aNil)))))) ((sRet ((eAnd ((eCall 1 f__law_int [] ((aCons (eVar 4) aNil)))) ((eAnd ((eBin dEq (eVar 4) ((eBin dIx ((eCall 1 f__law_tops [] ((aCons (eVar 2) aNil)))) (eC (.int 0)))))) ((eBin dEq (eVar 1) (eVar 2))))))))))))))))))
def f__law_rows : List D → List D → Rf (D × List D) := runH 6 m__law_rows
theorem sc__law_rows : FnScope ["hand", "row", "kept", "told", "bottom", "k"] ["hand"] (defScope st__law_rows) := ⟨rfl, rfl, rfl, by decide +kernel, rfl, by decide +kernel, by decide +kernel⟩
theorem d__law_rows {P : Program} {w : World} {Γ : Gm} {mg : Str → Option Value} {base : Heap} {f : Addr} {fd : FuncData} (F : FunD Γ.K "_law_rows" "_law_rows" (defArgs st__law_rows) (defBody st__law_rows) (defScope st__law_rows) [] [] f fd) (T : Tx Γ mg) (c__law_take_2 : OkC P w Γ.K mg base "_law_take" [] 2 (spH Γ 2 f__law_take)) (c__law_drawn_1 : OkC P w Γ.K mg base "_law_drawn" [] 4 (spH Γ 1 f__law_drawn)) (c_sum_ratios_1 : OkC P w Γ.K mg base "sum_ratios" [] 3 (spP Γ 1 f_sum_ratios)) (c__law_same_2 : OkC P w Γ.K mg base "_law_same" [] 2 (spP Γ 2 f__law_same)) (c__law_total_1 : OkC P w Γ.K mg base "_law_total" [] 4 (spP Γ 1 f__law_total)) (c_common_bottom_1 : OkC P w Γ.K mg base "common_bottom" [] 1 (spP Γ 1 f_common_bottom)) (c__law_int_1 : OkC P w Γ.K mg base "_law_int" [] 1 (spP Γ 1 f__law_int)) (c__law_tops_1 : OkC P w Γ.K mg base "_law_tops" [] 2 (spP Γ 1 f__law_tops)) :
    FnOk P w Γ.K mg base (L2.CX P w) 5 f fd ["hand"] (spH Γ 1 f__law_rows) :=
  okH (dvs := []) (N := ["hand", "row", "kept", "told", "bottom", "k"]) (ps := ["hand"]) (k := 4) (st := st__law_rows) (x := "_law_rows") (qual := "_law_rows") [0] m__law_rows F sc__law_rows (by decide) (by decide) (fun cdv A outer s H E S0 p hr => by
    have hr1 : Room 1 _ := hr.mono (by decide)
    have hr2 : Room 2 _ := hr.mono (by decide)
    have hr3 : Room 3 _ := hr.mono (by decide)
    have hr4 : Room 4 _ := hr.mono (by decide)
    exact ⟨_, (pss_cons (ps_setLc (i := 1) (own := [("k", 5)]) rfl sc__law_rows.nd rfl rfl (sw_true rfl rfl rfl (by decide +kernel)) (pi_range1 rfl T.n_range (pa_cons (pe_callX c__law_take_2 hr2 (takes_of rfl rfl rfl rfl) (pa_cons (pv 0) (pa_cons pe_int pa_nil))) pa_nil)) (blkOk_by (N := ["hand", "row", "kept", "told", "bottom", "k"]) (sc := defScope st__law_rows) (by decide +kernel)) (fun _ _ _ _ _ => (pg_name (i := 5) sc__law_rows.nd rfl (by first | exact Or.inl rfl | exact Or.inr rfl))) (fun _ _ _ _ _ => pts_nil) (fun _ _ _ _ _ => (pe_callX c__law_drawn_1 hr4 takes0 (pa_cons (pv 0) pa_nil)))) (pss_cons (ps_set (i := 2) sc__law_rows.nd rfl (by first | exact Or.inl rfl | exact Or.inr rfl) (pe_callTy call_list_of rfl T.n_list bt_list (pa_cons (pv 1) pa_nil))) (pss_cons (ps_set (i := 3) sc__law_rows.nd rfl (by first | exact Or.inl rfl | exact Or.inr rfl) (pe_callX c_sum_ratios_1 hr3 (takes_of rfl rfl rfl rfl) (pa_cons (pe_ifExp (pt_truth (pe_callX c__law_take_2 hr2 (takes_of rfl rfl rfl rfl) (pa_cons (pv 0) (pa_cons pe_int pa_nil))) (fun _ => rfl)) (pv 1) (pe_callTy call_tuple_of rfl T.n_tuple bt_tuple (pa_cons (pv 1) pa_nil))) pa_nil))) (pss_cons (ps_if (pt_not (pt_truth (pe_callX c__law_same_2 hr2 (takes_of rfl rfl rfl rfl) (pa_cons (pv 3) (pa_cons (pe_callX c__law_total_1 hr4 (takes_of rfl rfl rfl rfl) (pa_cons (pv 2) pa_nil)) pa_nil))) (fun _ => rfl))) (pss_one (ps_ret pe_bl)) pss_nil) (pss_cons (ps_set (i := 4) sc__law_rows.nd rfl (by first | exact Or.inl rfl | exact Or.inr rfl) (pe_callX c_common_bottom_1 hr1 (takes_of rfl rfl rfl rfl) (pa_cons (pe_ifExp (pt_truth (pe_callX c__law_take_2 hr2 (takes_of rfl rfl rfl rfl) (pa_cons (pv 0) (pa_cons pe_int pa_nil))) (fun _ => rfl)) (pv 1) (pe_callTy call_tuple_of rfl T.n_tuple bt_tuple (pa_cons (pv 1) pa_nil))) pa_nil))) (pss_one (ps_ret (pe_and (pe_callX c__law_int_1 hr1 (takes_of rfl rfl rfl rfl) (pa_cons (pv 4) pa_nil)) (pe_and (pe_cmpR (op_eqD (hu64 hr)) (pv 4) (pe_ix ix_seq (pe_callX c__law_tops_1 hr2 (takes_of rfl rfl rfl rfl) (pa_cons (pv 2) pa_nil)) pe_int (fun _ _ => rfl)) (nomark _)) (pe_one (pe_cmpR (op_eqD (hu64 hr)) (pv 1) (pv 2) (nomark _)))))))))))),
      (sv_seq (sv_set (ev_of (evf_lc (iv_rng1 (ea_cons (ev_callH (ea_cons (ev_int _) ea_nil)) ea_nil)) (fun _ _ => gv_name) (fun _ _ => et_yes) (fun _ _ => (ev_callH ea_nil))))) (sv_seq (sv_set (ev_of (evf_list (ea_cons ev_var ea_nil)))) (sv_seq (sv_set (ev_call (ea_cons (ev_if (et_tru (ev_callH (ea_cons (ev_int _) ea_nil))) ev_var (ev_cb cad_tuple (ea_cons ev_var ea_nil))) ea_nil) nil_ds)) (sv_seq (sv_if (et_not (et_tru (ev_call (ea_cons ev_var (ea_cons (ev_call (ea_cons ev_var ea_nil) nil_ds) ea_nil)) nil_ds))) (sv_ret (ev_bl _)) sv_next) (sv_seq (sv_set (ev_call (ea_cons (ev_if (et_tru (ev_callH (ea_cons (ev_int _) ea_nil))) ev_var (ev_cb cad_tuple (ea_cons ev_var ea_nil))) ea_nil) nil_ds)) (sv_ret (ev_andV (ev_call (ea_cons ev_var ea_nil) nil_ds) (ev_andV (ev_op opd_eq ev_var (ev_op opd_ix (ev_call (ea_cons ev_var ea_nil) nil_ds) (ev_int _))) (ev_op opd_eq ev_var ev_var)))))))))⟩)
/-! _law_kinds -/
def m__law_kinds : Py.Env → Out :=
  (sSeq ((sSet 1 ((eCallH 0 1 f__law_drawn (aNil))))) ((sSeq ((sSet 2 ((eCallH 0 2 f__law_spoiled ((aCons (eVar 1) aNil)))))) ((sSeq ((sIf ((tfOr ((tfB (eBin dNotB ((eCall 1 f_is_ratio [] ((aCons (eVar 1) aNil)))) (eC (.bl true))))) ((tfNot ((tfT ((eCall 2 f__law_yes [] ((aCons ((eCall 1 f_is_ratio [] ((aCons (eVar 2) aNil)))) (aCons ((eCall 1 f__law_is_due [] ((aCons (eVar 2) aNil)))) aNil))))))))))) ((sRet (eC (.bl false)))) (sNext))) ((sSeq ((sIf ((tfOr ((tfNot ((tfT ((eCall 2 f__law_yes [] ((aCons ((eCall 1 f_is_sequence [] ((aCons (eVar 2) aNil)))) (aCons ((eCall 1 f__law_seq [] ((aCons (eVar 2) aNil)))) aNil))))))))) ((tfB (eBin dNotB ((eCall 1 f_is_sequence [] ((aCons ((aF dLst ((aCons (eVar 1) aNil)))) aNil)))) (eC (.bl true))))))) ((sRet (eC (.bl false)))) (sNext))) ((sSeq ((sSet 3 ((eCallH 0 1 f__law_sized (aNil))))) ((sSeq ((sSet 4 ((eBin dIx ((aF dTup ((aCons (eC .non) (aCons (eVar 3) (aCons ((eBin dAdd (eVar 3) (eC (.int 1)))) (aCons ((eBin dSub (eVar 3) (eC (.int 1)))) aNil))))))) ((eCallH 0 2 f__law_take ((aCons (eC (.int 4)) aNil)))))))) ((sSeq ((sSet 5 ((eBin dIx ((aF dTup ((aCons (eC .non) (aCons (eVar 3) (aCons ((eBin dAdd (eVar 3) (eC (.int 1)))) (aCons ((eBin dSub (eVar 3) (eC (.int 1)))) aNil))))))) ((eCallH 0 2 f__law_take ((aCons (eC (.int 4)) aNil)))))))) ((sSeq ((sSet 6 ((eAnd ((eOr ((eUn dIsN (eVar 4))) ((eBin dLe (eVar 4) (eVar 3))))) ((eOr ((eUn dIsN (eVar 5))) ((eBin dLe (eVar 3) (eVar 5))))))))) ((sSeq ((sIf ((tfOr ((tfNot ((tfT ((eCall 2 f__law_yes [] ((aCons ((eCall 3 f_is_whole [] ((aCons (eVar 3) (aCons (eVar 4) (aCons (eVar 5) aNil)))))) (aCons (eVar 6) aNil))))))))) ((tfB (eBin dNotB ((eCall 3 f_is_whole [.non, .non] ((aCons (eVar 3) aNil)))) (eC (.bl true))))))) ((sRet (eC (.bl false)))) (sNext))) ((sSeq ((sSet 7 ((eCallH 0 1 f__law_odd (aNil))))) ((sRet ((eAnd ((eBin dIsB ((eCall 3 f_is_whole [.non, .non] ((aCons (eVar 7) aNil)))) (eC (.bl false)))) ((eAnd ((eBin dIsB ((eCall 3 f_is_whole [] ((aCons (eVar 7) (aCons (eC (.int 0)) (aCons (eC (.int 1)) aNil)))))) (eC (.bl false)))) ((eBin dIsB ((eCall 3 f_is_whole [] ((aCons (eVar 3) (aCons (eC .non) (aCons ((eBin dSub (eVar 3) (eC (.int 1)))) aNil)))))) (eC (.bl false)))))))))))))))))))))))))))))
def f__law_kinds : List D → List D → Rf (D × List D) := runH 8 m__law_kinds
theorem sc__law_kinds : FnScope ["hand", "one", "thing", "number", "low", "high", "due", "odd"] ["hand"] (defScope st__law_kinds) := ⟨rfl, rfl, rfl, by decide +kernel, rfl, by decide +kernel, by decide +kernel⟩
theorem d__law_kinds {P : Program} {w : World} {Γ : Gm} {mg : Str → Option Value} {base : Heap} {f : Addr} {fd : FuncData} (F : FunD Γ.K "_law_kinds" "_law_kinds" (defArgs st__law_kinds) (defBody st__law_kinds) (defScope st__law_kinds) [] [] f fd) (T : Tx Γ mg) (c__law_drawn_1 : OkC P w Γ.K mg base "_law_drawn" [] 4 (spH Γ 1 f__law_drawn)) (c__law_spoiled_2 : OkC P w Γ.K mg base "_law_spoiled" [] 4 (spH Γ 2 f__law_spoiled)) (c_is_ratio_1 : OkC P w Γ.K mg base "is_ratio" [] 2 (spP Γ 1 f_is_ratio)) (c__law_yes_2 : OkC P w Γ.K mg base "_law_yes" [] 1 (spP Γ 2 f__law_yes)) (c__law_is_due_1 : OkC P w Γ.K mg base "_law_is_due" [] 2 (spP Γ 1 f__law_is_due)) (c_is_sequence_1 : OkC P w Γ.K mg base "is_sequence" [] 1 (spP Γ 1 f_is_sequence)) (c__law_seq_1 : OkC P w Γ.K mg base "_law_seq" [] 1 (spP Γ 1 f__law_seq)) (c__law_sized_1 : OkC P w Γ.K mg base "_law_sized" [] 3 (spH Γ 1 f__law_sized)) (c__law_take_2 : OkC P w Γ.K mg base "_law_take" [] 2 (spH Γ 2 f__law_take)) (c_is_whole_3 : OkC P w Γ.K mg base "is_whole" [] 1 (spP Γ 3 f_is_whole)) (c_is_whole_1 : OkC P w Γ.K mg base "is_whole" [.non, .non] 1 (spP Γ 3 f_is_whole)) (c__law_odd_1 : OkC P w Γ.K mg base "_law_odd" [] 3 (spH Γ 1 f__law_odd)) :
    FnOk P w Γ.K mg base (L2.CX P w) 5 f fd ["hand"] (spH Γ 1 f__law_kinds) :=
  okH (dvs := []) (N := ["hand", "one", "thing", "number", "low", "high", "due", "odd"]) (ps := ["hand"]) (k := 4) (st := st__law_kinds) (x := "_law_kinds") (qual := "_law_kinds") [0] m__law_kinds F sc__law_kinds (by decide) (by decide) (fun cdv A outer s H E S0 p hr => by
    have hr1 : Room 1 _ := hr.mono (by decide)
    have hr2 : Room 2 _ := hr.mono (by decide)
    have hr3 : Room 3 _ := hr.mono (by decide)
    have hr4 : Room 4 _ := hr.mono (by decide)
    exact ⟨_, (pss_cons (ps_set (i := 1) sc__law_kinds.nd rfl (by first | exact Or.inl rfl | exact Or.inr rfl) (pe_callX c__law_drawn_1 hr4 (takes_of rfl rfl rfl rfl) (pa_cons (pv 0) pa_nil))) (pss_cons (ps_set (i := 2) sc__law_kinds.nd rfl (by first | exact Or.inl rfl | exact Or.inr rfl) (pe_callX c__law_spoiled_2 hr4 (takes_of rfl rfl rfl rfl) (pa_cons (pv 0) (pa_cons (pv 1) pa_nil)))) (pss_cons (ps_if (PW.pt (pw_or (pt_cmpR op_notBl (pe_callX c_is_ratio_1 hr2 (takes_of rfl rfl rfl rfl) (pa_cons (pv 1) pa_nil)) pe_bl (nomark _)) (pw_or1 (pt_not (pt_truth (pe_callX c__law_yes_2 hr1 (takes_of rfl rfl rfl rfl) (pa_cons (pe_callX c_is_ratio_1 hr2 (takes_of rfl rfl rfl rfl) (pa_cons (pv 2) pa_nil)) (pa_cons (pe_callX c__law_is_due_1 hr2 (takes_of rfl rfl rfl rfl) (pa_cons (pv 2) pa_nil)) pa_nil))) (fun _ => rfl)))))) (pss_one (ps_ret pe_bl)) pss_nil) (pss_cons (ps_if (PW.pt (pw_or (pt_not (pt_truth (pe_callX c__law_yes_2 hr1 (takes_of rfl rfl rfl rfl) (pa_cons (pe_callX c_is_sequence_1 hr1 (takes_of rfl rfl rfl rfl) (pa_cons (pv 2) pa_nil)) (pa_cons (pe_callX c__law_seq_1 hr1 (takes_of rfl rfl rfl rfl) (pa_cons (pv 2) pa_nil)) pa_nil))) (fun _ => rfl))) (pw_or1 (pt_cmpR op_notBl (pe_callX c_is_sequence_1 hr1 (takes_of rfl rfl rfl rfl) (pa_cons (pe_lst (pa_cons (pv 1) pa_nil)) pa_nil)) pe_bl (nomark _))))) (pss_one (ps_ret pe_bl)) pss_nil) (pss_cons (ps_set (i := 3) sc__law_kinds.nd rfl (by first | exact Or.inl rfl | exact Or.inr rfl) (pe_callX c__law_sized_1 hr3 (takes_of rfl rfl rfl rfl) (pa_cons (pv 0) pa_nil))) (pss_cons (ps_set (i := 4) sc__law_kinds.nd rfl (by first | exact Or.inl rfl | exact Or.inr rfl) (pe_ix ix_seq (pe_tup (pa_cons pe_non (pa_cons (pv 3) (pa_cons (pe_op opx_add (pv 3) pe_int) (pa_cons (pe_op op_sub (pv 3) pe_int) pa_nil))))) (pe_callX c__law_take_2 hr2 (takes_of rfl rfl rfl rfl) (pa_cons (pv 0) (pa_cons pe_int pa_nil))) (fun _ _ => rfl))) (pss_cons (ps_set (i := 5) sc__law_kinds.nd rfl (by first | exact Or.inl rfl | exact Or.inr rfl) (pe_ix ix_seq (pe_tup (pa_cons pe_non (pa_cons (pv 3) (pa_cons (pe_op opx_add (pv 3) pe_int) (pa_cons (pe_op op_sub (pv 3) pe_int) pa_nil))))) (pe_callX c__law_take_2 hr2 (takes_of rfl rfl rfl rfl) (pa_cons (pv 0) (pa_cons pe_int pa_nil))) (fun _ _ => rfl))) (pss_cons (ps_set (i := 6) sc__law_kinds.nd rfl (by first | exact Or.inl rfl | exact Or.inr rfl) (pe_and (pe_or (pe_cmp (pc_isN (pv 4)) rfl) (pe_one (pe_cmpR op_le (pv 4) (pv 3) (nomark _)))) (pe_one (pe_or (pe_cmp (pc_isN (pv 5)) rfl) (pe_one (pe_cmpR op_le (pv 3) (pv 5) (nomark _))))))) (pss_cons (ps_if (PW.pt (pw_or (pt_not (pt_truth (pe_callX c__law_yes_2 hr1 (takes_of rfl rfl rfl rfl) (pa_cons (pe_callX c_is_whole_3 hr1 (takes_of rfl rfl rfl rfl) (pa_cons (pv 3) (pa_cons (pv 4) (pa_cons (pv 5) pa_nil)))) (pa_cons (pv 6) pa_nil))) (fun _ => rfl))) (pw_or1 (pt_cmpR op_notBl (pe_callX c_is_whole_1 hr1 (takes_of rfl rfl rfl rfl) (pa_cons (pv 3) pa_nil)) pe_bl (nomark _))))) (pss_one (ps_ret pe_bl)) pss_nil) (pss_cons (ps_set (i := 7) sc__law_kinds.nd rfl (by first | exact Or.inl rfl | exact Or.inr rfl) (pe_callX c__law_odd_1 hr3 (takes_of rfl rfl rfl rfl) (pa_cons (pv 0) pa_nil))) (pss_one (ps_ret (pe_and (pe_cmpR op_isBl (pe_callX c_is_whole_1 hr1 (takes_of rfl rfl rfl rfl) (pa_cons (pv 7) pa_nil)) pe_bl (nomark _)) (pe_and (pe_cmpR op_isBl (pe_callX c_is_whole_3 hr1 (takes_of rfl rfl rfl rfl) (pa_cons (pv 7) (pa_cons pe_int (pa_cons pe_int pa_nil)))) pe_bl (nomark _)) (pe_one (pe_cmpR op_isBl (pe_callX c_is_whole_3 hr1 (takes_of rfl rfl rfl rfl) (pa_cons (pv 3) (pa_cons pe_non (pa_cons (pe_op op_sub (pv 3) pe_int) pa_nil)))) pe_bl (nomark _))))))))))))))))),
      (sv_seq (sv_set (ev_callH ea_nil)) (sv_seq (sv_set (ev_callH (ea_cons ev_var ea_nil))) (sv_seq (sv_if (et_or (et_test (ev_op opd_notB (ev_call (ea_cons ev_var ea_nil) nil_ds) (ev_bl _))) (et_not (et_tru (ev_call (ea_cons (ev_call (ea_cons ev_var ea_nil) nil_ds) (ea_cons (ev_call (ea_cons ev_var ea_nil) nil_ds) ea_nil)) nil_ds)))) (sv_ret (ev_bl _)) sv_next) (sv_seq (sv_if (et_or (et_not (et_tru (ev_call (ea_cons (ev_call (ea_cons ev_var ea_nil) nil_ds) (ea_cons (ev_call (ea_cons ev_var ea_nil) nil_ds) ea_nil)) nil_ds))) (et_test (ev_op opd_notB (ev_call (ea_cons (ev_lst (ea_cons ev_var ea_nil)) ea_nil) nil_ds) (ev_bl _)))) (sv_ret (ev_bl _)) sv_next) (sv_seq (sv_set (ev_callH ea_nil)) (sv_seq (sv_set (ev_op opd_ix (ev_tup (ea_cons ev_non (ea_cons ev_var (ea_cons (ev_op opd_add ev_var (ev_int _)) (ea_cons (ev_op opd_sub ev_var (ev_int _)) ea_nil))))) (ev_callH (ea_cons (ev_int _) ea_nil)))) (sv_seq (sv_set (ev_op opd_ix (ev_tup (ea_cons ev_non (ea_cons ev_var (ea_cons (ev_op opd_add ev_var (ev_int _)) (ea_cons (ev_op opd_sub ev_var (ev_int _)) ea_nil))))) (ev_callH (ea_cons (ev_int _) ea_nil)))) (sv_seq (sv_set (ev_andV (ev_orV (ev_isN ev_var) (ev_op opd_le ev_var ev_var)) (ev_orV (ev_isN ev_var) (ev_op opd_le ev_var ev_var)))) (sv_seq (sv_if (et_or (et_not (et_tru (ev_call (ea_cons (ev_call (ea_cons ev_var (ea_cons ev_var (ea_cons ev_var ea_nil))) nil_ds) (ea_cons ev_var ea_nil)) nil_ds))) (et_test (ev_op opd_notB (ev_call (ea_cons ev_var ea_nil) (fun _ => (.cons .non (.cons .non .nil)))) (ev_bl _)))) (sv_ret (ev_bl _)) sv_next) (sv_seq (sv_set (ev_callH ea_nil)) (sv_ret (ev_andV (ev_op opd_isB (ev_call (ea_cons ev_var ea_nil) (fun _ => (.cons .non (.cons .non .nil)))) (ev_bl _)) (ev_andV (ev_op opd_isB (ev_call (ea_cons ev_var (ea_cons (ev_int _) (ea_cons (ev_int _) ea_nil))) nil_ds) (ev_bl _)) (ev_op opd_isB (ev_call (ea_cons ev_var (ea_cons ev_non (ea_cons (ev_op opd_sub ev_var (ev_int _)) ea_nil))) nil_ds) (ev_bl _)))))))))))))))⟩)
/-! _law_makings -/
def m__law_makings : Py.Env → Out :=
  (sSeq ((sSet 1 ((eIf ((tfB (eBin dEq ((eCallH 0 2 f__law_take ((aCons (eC (.int 4)) aNil)))) (eC (.int 0))))) ((eCallH 0 1 f__law_odd (aNil))) ((eCallH 0 1 f__law_sized (aNil))))))) ((sSeq ((sSet 2 ((eIf ((tfB (eBin dEq ((eCallH 0 2 f__law_take ((aCons (eC (.int 4)) aNil)))) (eC (.int 0))))) ((eCallH 0 1 f__law_odd (aNil))) ((eCallH 0 1 f__law_sized (aNil))))))) ((sSeq ((sSet 3 ((eCall 3 f__law_made [] ((aCons (eVar 1) (aCons (eVar 2) (aCons (eC (.bl false)) aNil)))))))) ((sSeq ((sSet 4 ((eCall 2 f__law_made_due [] ((aCons (eVar 1) (aCons (eVar 2) aNil))))))) ((sSeq ((sIf ((tfOr ((tfB (eBin dNe (eVar 3) (eVar 4)))) ((tfB (eBin dNe ((eUn (dIsi "list") (eVar 3))) ((eUn (dIsi "list") (eVar 4)))))))) ((sRet (eC (.bl false)))) (sNext))) ((sSeq ((sIf ((tfAnd ((tfT ((eUn (dIsi "tuple") (eVar 3))))) ((tfNot ((tfT ((eCall 2 f__law_same [] ((aCons (eVar 3) (aCons (eVar 4) aNil))))))))))) ((sRet (eC (.bl false)))) (sNext))) ((sSeq ((sSet 3 ((eCall 3 f__law_made [] ((aCons (eVar 1) (aCons (eC (.int 1)) (aCons (eC (.bl true)) aNil)))))))) ((sSeq ((sSet 4 ((eCall 2 f__law_made_due [] ((aCons (eVar 1) (aCons (eC (.int 1)) aNil))))))) ((sRet ((eAnd ((eBin dEq (eVar 3) (eVar 4))) ((eBin dEq ((eUn (dIsi "list") (eVar 3))) ((eUn (dIsi "list") (eVar 4))))))))))))))))))))))))
def f__law_makings : List D → List D → Rf (D × List D) := runH 5 m__law_makings
theorem sc__law_makings : FnScope ["hand", "top", "bottom", "told", "due"] ["hand"] (defScope st__law_makings) := ⟨rfl, rfl, rfl, by decide +kernel, rfl, by decide +kernel, by decide +kernel⟩
theorem d__law_makings {P : Program} {w : World} {Γ : Gm} {mg : Str → Option Value} {base : Heap} {f : Addr} {fd : FuncData} (F : FunD Γ.K "_law_makings" "_law_makings" (defArgs st__law_makings) (defBody st__law_makings) (defScope st__law_makings) [] [] f fd) (T : Tx Γ mg) (c__law_take_2 : OkC P w Γ.K mg base "_law_take" [] 2 (spH Γ 2 f__law_take)) (c__law_odd_1 : OkC P w Γ.K mg base "_law_odd" [] 3 (spH Γ 1 f__law_odd)) (c__law_sized_1 : OkC P w Γ.K mg base "_law_sized" [] 3 (spH Γ 1 f__law_sized)) (c__law_made_3 : OkC P w Γ.K mg base "_law_made" [] 4 (spP Γ 3 f__law_made)) (c__law_made_due_2 : OkC P w Γ.K mg base "_law_made_due" [] 3 (spP Γ 2 f__law_made_due)) (c__law_same_2 : OkC P w Γ.K mg base "_law_same" [] 2 (spP Γ 2 f__law_same)) :
    FnOk P w Γ.K mg base (L2.CX P w) 5 f fd ["hand"] (spH Γ 1 f__law_makings) :=
  okH (dvs := []) (N := ["hand", "top", "bottom", "told", "due"]) (ps := ["hand"]) (k := 4) (st := st__law_makings) (x := "_law_makings") (qual := "_law_makings") [0] m__law_makings F sc__law_makings (by decide) (by decide) (fun cdv A outer s H E S0 p hr => by
    have hr2 : Room 2 _ := hr.mono (by decide)
    have hr3 : Room 3 _ := hr.mono (by decide)
    have hr4 : Room 4 _ := hr.mono (by decide)
    exact ⟨_, (pss_cons (ps_set (i := 1) sc__law_makings.nd rfl (by first | exact Or.inl rfl | exact Or.inr rfl) (pe_ifExp (pt_cmpR (op_eqD (hu64 hr)) (pe_callX c__law_take_2 hr2 (takes_of rfl rfl rfl rfl) (pa_cons (pv 0) (pa_cons pe_int pa_nil))) pe_int (nomark _)) (pe_callX c__law_odd_1 hr3 (takes_of rfl rfl rfl rfl) (pa_cons (pv 0) pa_nil)) (pe_callX c__law_sized_1 hr3 (takes_of rfl rfl rfl rfl) (pa_cons (pv 0) pa_nil)))) (pss_cons (ps_set (i := 2) sc__law_makings.nd rfl (by first | exact Or.inl rfl | exact Or.inr rfl) (pe_ifExp (pt_cmpR (op_eqD (hu64 hr)) (pe_callX c__law_take_2 hr2 (takes_of rfl rfl rfl rfl) (pa_cons (pv 0) (pa_cons pe_int pa_nil))) pe_int (nomark _)) (pe_callX c__law_odd_1 hr3 (takes_of rfl rfl rfl rfl) (pa_cons (pv 0) pa_nil)) (pe_callX c__law_sized_1 hr3 (takes_of rfl rfl rfl rfl) (pa_cons (pv 0) pa_nil)))) (pss_cons (ps_set (i := 3) sc__law_makings.nd rfl (by first | exact Or.inl rfl | exact Or.inr rfl) (pe_callX c__law_made_3 hr4 (takes_of rfl rfl rfl rfl) (pa_cons (pv 1) (pa_cons (pv 2) (pa_cons pe_bl pa_nil))))) (pss_cons (ps_set (i := 4) sc__law_makings.nd rfl (by first | exact Or.inl rfl | exact Or.inr rfl) (pe_callX c__law_made_due_2 hr3 (takes_of rfl rfl rfl rfl) (pa_cons (pv 1) (pa_cons (pv 2) pa_nil)))) (pss_cons (ps_if (PW.pt (pw_or (pt_cmpR (op_neD (hu64 hr)) (pv 3) (pv 4) (nomark _)) (pw_or1 (pt_cmpR (op_neD (hu64 hr)) (pe_callB call_isi rfl T.n_isinstance bt_isinstance (pa_cons (pv 3) (pa_cons (pe_bltn (v := .ty "list") rfl T.n_list bt_list rfl) pa_nil))) (pe_callB call_isi rfl T.n_isinstance bt_isinstance (pa_cons (pv 4) (pa_cons (pe_bltn (v := .ty "list") rfl T.n_list bt_list rfl) pa_nil))) (nomark _))))) (pss_one (ps_ret pe_bl)) pss_nil) (pss_cons (ps_if (PW.pt (pw_and (pt_truth (pe_callB call_isi rfl T.n_isinstance bt_isinstance (pa_cons (pv 3) (pa_cons (pe_bltn (v := .ty "tuple") rfl T.n_tuple bt_tuple rfl) pa_nil))) (fun _ => rfl)) (pw_and1 (pt_not (pt_truth (pe_callX c__law_same_2 hr2 (takes_of rfl rfl rfl rfl) (pa_cons (pv 3) (pa_cons (pv 4) pa_nil))) (fun _ => rfl)))))) (pss_one (ps_ret pe_bl)) pss_nil) (pss_cons (ps_set (i := 3) sc__law_makings.nd rfl (by first | exact Or.inl rfl | exact Or.inr rfl) (pe_callX c__law_made_3 hr4 (takes_of rfl rfl rfl rfl) (pa_cons (pv 1) (pa_cons pe_int (pa_cons pe_bl pa_nil))))) (pss_cons (ps_set (i := 4) sc__law_makings.nd rfl (by first | exact Or.inl rfl | exact Or.inr rfl) (pe_callX c__law_made_due_2 hr3 (takes_of rfl rfl rfl rfl) (pa_cons (pv 1) (pa_cons pe_int pa_nil)))) (pss_one (ps_ret (pe_and (pe_cmpR (op_eqD (hu64 hr)) (pv 3) (pv 4) (nomark _)) (pe_one (pe_cmpR (op_eqD (hu64 hr)) (pe_callB call_isi rfl T.n_isinstance bt_isinstance (pa_cons (pv 3) (pa_cons (pe_bltn (v := .ty "list") rfl T.n_list bt_list rfl) pa_nil))) (pe_callB call_isi rfl T.n_isinstance bt_isinstance (pa_cons (pv 4) (pa_cons (pe_bltn (v := .ty "list") rfl T.n_list bt_list rfl) pa_nil))) (nomark _)))))))))))))),
      (sv_seq (sv_set (ev_if (et_test (ev_op opd_eq (ev_callH (ea_cons (ev_int _) ea_nil)) (ev_int _))) (ev_callH ea_nil) (ev_callH ea_nil))) (sv_seq (sv_set (ev_if (et_test (ev_op opd_eq (ev_callH (ea_cons (ev_int _) ea_nil)) (ev_int _))) (ev_callH ea_nil) (ev_callH ea_nil))) (sv_seq (sv_set (ev_call (ea_cons ev_var (ea_cons ev_var (ea_cons (ev_bl _) ea_nil))) nil_ds)) (sv_seq (sv_set (ev_call (ea_cons ev_var (ea_cons ev_var ea_nil)) nil_ds)) (sv_seq (sv_if (et_or (et_test (ev_op opd_ne ev_var ev_var)) (et_test (ev_op opd_ne (ev_isi ev_var) (ev_isi ev_var)))) (sv_ret (ev_bl _)) sv_next) (sv_seq (sv_if (et_and (et_tru (ev_isi ev_var)) (et_not (et_tru (ev_call (ea_cons ev_var (ea_cons ev_var ea_nil)) nil_ds)))) (sv_ret (ev_bl _)) sv_next) (sv_seq (sv_set (ev_call (ea_cons ev_var (ea_cons (ev_int _) (ea_cons (ev_bl _) ea_nil))) nil_ds)) (sv_seq (sv_set (ev_call (ea_cons ev_var (ea_cons (ev_int _) ea_nil)) nil_ds)) (sv_ret (ev_andV (ev_op opd_eq ev_var ev_var) (ev_op opd_eq (ev_isi ev_var) (ev_isi ev_var))))))))))))⟩)
/-! _law_powers -/
def m__law_powers : Py.Env → Out :=
  (sSeq ((sSet 1 ((eCallH 0 1 f__law_sized (aNil))))) ((sSeq ((sSet 2 ((eCallH 0 2 f__law_take ((aCons (eC (.int 13)) aNil)))))) ((sSeq ((sSet 3 ((eCall 2 f_whole_power [] ((aCons (eVar 1) (aCons (eVar 2) aNil))))))) ((sRet ((eAnd ((eCall 1 f__law_int [] ((aCons (eVar 3) aNil)))) ((eAnd ((eBin dEq (eVar 3) ((eCall 2 f__law_power [] ((aCons (eVar 1) (aCons (eVar 2) aNil))))))) ((eAnd ((eBin dEq ((eCall 2 f_whole_power [] ((aCons (eC (.int 0)) (aCons (eC (.int 0)) aNil))))) (eC (.int 1)))) ((eBin dEq ((eCall 2 f_whole_power [] ((aCons (eC (.int 0)) (aCons (eC (.int 3)) aNil))))) (eC (.int 0)))))))))))))))))
def f__law_powers : List D → List D → Rf (D × List D) := runH 4 m__law_powers
theorem sc__law_powers : FnScope ["hand", "base", "exponent", "told"] ["hand"] (defScope st__law_powers) := ⟨rfl, rfl, rfl, by decide +kernel, rfl, by decide +kernel, by decide +kernel⟩
theorem d__law_powers {P : Program} {w : World} {Γ : Gm} {mg : Str → Option Value} {base : Heap} {f : Addr} {fd : FuncData} (F : FunD Γ.K "_law_powers" "_law_powers" (defArgs st__law_powers) (defBody st__law_powers) (defScope st__law_powers) [] [] f fd) (T : Tx Γ mg) (c__law_sized_1 : OkC P w Γ.K mg base "_law_sized" [] 3 (spH Γ 1 f__law_sized)) (c__law_take_2 : OkC P w Γ.K mg base "_law_take" [] 2 (spH Γ 2 f__law_take)) (c_whole_power_2 : OkC P w Γ.K mg base "whole_power" [] 1 (spP Γ 2 f_whole_power)) (c__law_int_1 : OkC P w Γ.K mg base "_law_int" [] 1 (spP Γ 1 f__law_int)) (c__law_power_2 : OkC P w Γ.K mg base "_law_power" [] 1 (spP Γ 2 f__law_power)) :
    FnOk P w Γ.K mg base (L2.CX P w) 4 f fd ["hand"] (spH Γ 1 f__law_powers) :=
  okH (dvs := []) (N := ["hand", "base", "exponent", "told"]) (ps := ["hand"]) (k := 3) (st := st__law_powers) (x := "_law_powers") (qual := "_law_powers") [0] m__law_powers F sc__law_powers (by decide) (by decide) (fun cdv A outer s H E S0 p hr => by
    have hr1 : Room 1 _ := hr.mono (by decide)
    have hr2 : Room 2 _ := hr.mono (by decide)
    have hr3 : Room 3 _ := hr.mono (by decide)
    exact ⟨_, (pss_cons (ps_set (i := 1) sc__law_powers.nd rfl (by first | exact Or.inl rfl | exact Or.inr rfl) (pe_callX c__law_sized_1 hr3 (takes_of rfl rfl rfl rfl) (pa_cons (pv 0) pa_nil))) (pss_cons (ps_set (i := 2) sc__law_powers.nd rfl (by first | exact Or.inl rfl | exact Or.inr rfl) (pe_callX c__law_take_2 hr2 (takes_of rfl rfl rfl rfl) (pa_cons (pv 0) (pa_cons pe_int pa_nil)))) (pss_cons (ps_set (i := 3) sc__law_powers.nd rfl (by first | exact Or.inl rfl | exact Or.inr rfl) (pe_callX c_whole_power_2 hr1 (takes_of rfl rfl rfl rfl) (pa_cons (pv 1) (pa_cons (pv 2) pa_nil)))) (pss_one (ps_ret (pe_and (pe_callX c__law_int_1 hr1 (takes_of rfl rfl rfl rfl) (pa_cons (pv 3) pa_nil)) (pe_and (pe_cmpR (op_eqD (hu64 hr)) (pv 3) (pe_callX c__law_power_2 hr1 (takes_of rfl rfl rfl rfl) (pa_cons (pv 1) (pa_cons (pv 2) pa_nil))) (nomark _)) (pe_and (pe_cmpR (op_eqD (hu64 hr)) (pe_callX c_whole_power_2 hr1 (takes_of rfl rfl rfl rfl) (pa_cons pe_int (pa_cons pe_int pa_nil))) pe_int (nomark _)) (pe_one (pe_cmpR (op_eqD (hu64 hr)) (pe_callX c_whole_power_2 hr1 (takes_of rfl rfl rfl rfl) (pa_cons pe_int (pa_cons pe_int pa_nil))) pe_int (nomark _))))))))))),
      (sv_seq (sv_set (ev_callH ea_nil)) (sv_seq (sv_set (ev_callH (ea_cons (ev_int _) ea_nil))) (sv_seq (sv_set (ev_call (ea_cons ev_var (ea_cons ev_var ea_nil)) nil_ds)) (sv_ret (ev_andV (ev_call (ea_cons ev_var ea_nil) nil_ds) (ev_andV (ev_op opd_eq ev_var (ev_call (ea_cons ev_var (ea_cons ev_var ea_nil)) nil_ds)) (ev_andV (ev_op opd_eq (ev_call (ea_cons (ev_int _) (ea_cons (ev_int _) ea_nil)) nil_ds) (ev_int _)) (ev_op opd_eq (ev_call (ea_cons (ev_int _) (ea_cons (ev_int _) ea_nil)) nil_ds) (ev_int _)))))))))⟩)
/-! law -/
def l1_law : Py.Env → Out :=
  (sSeq ((sIf ((tfOr ((tfNot ((tfT ((eCallH 1 1 f__law_couples (aNil))))))) ((tfOr ((tfNot ((tfT ((eCallH 1 1 f__law_rows (aNil))))))) ((tfNot ((tfT ((eCallH 1 1 f__law_kinds (aNil))))))))))) ((sRet (eC (.bl false)))) (sNext))) ((sIf ((tfOr ((tfNot ((tfT ((eCallH 1 1 f__law_makings (aNil))))))) ((tfNot ((tfT ((eCallH 1 1 f__law_powers (aNil))))))))) ((sRet (eC (.bl false)))) (sNext))))
def m_law : Py.Env → Out :=
  (sSeq ((sSet 1 ((eCallN 1 f__law_hand [] ((aCons (eVar 0) aNil)))))) ((sSeq ((sIf ((tfOr ((tfNot ((tfT ((eCall 2 f__law_same [] ((aCons (eC (.tup [(.int 0), (.int 1)])) (aCons ((aF dTup ((aCons (eC (.int 0)) (aCons (eC (.int 1)) aNil))))) aNil))))))))) ((tfNot ((tfT ((eCall 2 f__law_same [] ((aCons (eC (.tup [(.int 1), (.int 1)])) (aCons ((aF dTup ((aCons (eC (.int 1)) (aCons (eC (.int 1)) aNil))))) aNil))))))))))) ((sRet (eC (.bl false)))) (sNext))) ((sSeq ((sFor (rng1M ((aCons (eC (.int 4)) aNil))) (nmG 2) (l1_law))) ((sRet (eC (.bl true)))))))))
def f_law : List D → Rf D := runF 3 m_law
theorem sc_law : FnScope ["script", "hand", "turn"] ["script"] (defScope st_law) := ⟨rfl, rfl, rfl, by decide +kernel, rfl, by decide +kernel, by decide +kernel⟩
theorem d_law {P : Program} {w : World} {Γ : Gm} {mg : Str → Option Value} {base : Heap} {f : Addr} {fd : FuncData} (F : FunD Γ.K "law" "law" (defArgs st_law) (defBody st_law) (defScope st_law) [] [] f fd) (T : Tx Γ mg) (c__law_hand_1 : OkC P w Γ.K mg base "_law_hand" [] 1 (spN Γ 1 f__law_hand)) (c__law_same_2 : OkC P w Γ.K mg base "_law_same" [] 2 (spP Γ 2 f__law_same)) (c__law_couples_1 : OkC P w Γ.K mg base "_law_couples" [] 5 (spH Γ 1 f__law_couples)) (c__law_rows_1 : OkC P w Γ.K mg base "_law_rows" [] 5 (spH Γ 1 f__law_rows)) (c__law_kinds_1 : OkC P w Γ.K mg base "_law_kinds" [] 5 (spH Γ 1 f__law_kinds)) (c__law_makings_1 : OkC P w Γ.K mg base "_law_makings" [] 5 (spH Γ 1 f__law_makings)) (c__law_powers_1 : OkC P w Γ.K mg base "_law_powers" [] 4 (spH Γ 1 f__law_powers)) :
    FnOk P w Γ.K mg base (L2.CX P w) 6 f fd ["script"] (spP Γ 1 f_law) :=
  okP (dvs := []) (N := ["script", "hand", "turn"]) (ps := ["script"]) (k := 5) (st := st_law) (x := "law") (qual := "law") [1] m_law F sc_law (by decide) (fun cdv A outer s H E S0 hr => by
    have hr1 : Room 1 _ := hr.mono (by decide)
    have hr2 : Room 2 _ := hr.mono (by decide)
    have hr4 : Room 4 _ := hr.mono (by decide)
    have hr5 : Room 5 _ := hr.mono (by decide)
    exact ⟨_, (pss_cons (ps_set (i := 1) sc_law.nd rfl (by first | exact Or.inl rfl | exact Or.inr rfl) (pe_callX c__law_hand_1 hr1 (takes_of rfl rfl rfl rfl) (pa_cons (pv 0) pa_nil))) (pss_cons (ps_if (PW.pt (pw_or (pt_not (pt_truth (pe_callX c__law_same_2 hr2 (takes_of rfl rfl rfl rfl) (pa_cons (pe_glob (v := .ref _) rfl T.k_ZERO rfl) (pa_cons (pe_tup (pa_cons pe_int (pa_cons pe_int pa_nil))) pa_nil))) (fun _ => rfl))) (pw_or1 (pt_not (pt_truth (pe_callX c__law_same_2 hr2 (takes_of rfl rfl rfl rfl) (pa_cons (pe_glob (v := .ref _) rfl T.k_ONE rfl) (pa_cons (pe_tup (pa_cons pe_int (pa_cons pe_int pa_nil))) pa_nil))) (fun _ => rfl)))))) (pss_one (ps_ret pe_bl)) pss_nil) (pss_cons (ps_for (passes_of rfl) rfl (pi_range1 rfl T.n_range (pa_cons pe_int pa_nil)) (pg_name (i := 2) sc_law.nd rfl (by first | exact Or.inl rfl | exact Or.inr rfl)) (pss_cons (ps_if (PW.pt (pw_or (pt_not (pt_truth (pe_callX c__law_couples_1 hr5 (takes_of rfl rfl rfl rfl) (pa_cons (pv 1) pa_nil)) (fun _ => rfl))) (pw_or (pt_not (pt_truth (pe_callX c__law_rows_1 hr5 (takes_of rfl rfl rfl rfl) (pa_cons (pv 1) pa_nil)) (fun _ => rfl))) (pw_or1 (pt_not (pt_truth (pe_callX c__law_kinds_1 hr5 (takes_of rfl rfl rfl rfl) (pa_cons (pv 1) pa_nil)) (fun _ => rfl))))))) (pss_one (ps_ret pe_bl)) pss_nil) (pss_one (ps_if (PW.pt (pw_or (pt_not (pt_truth (pe_callX c__law_makings_1 hr5 (takes_of rfl rfl rfl rfl) (pa_cons (pv 1) pa_nil)) (fun _ => rfl))) (pw_or1 (pt_not (pt_truth (pe_callX c__law_powers_1 hr4 (takes_of rfl rfl rfl rfl) (pa_cons (pv 1) pa_nil)) (fun _ => rfl)))))) (pss_one (ps_ret pe_bl)) pss_nil)))) (pss_one (ps_ret pe_bl))))),
      (sv_seq (sv_own (evf_call (ea_cons ev_var ea_nil) nil_ds)) (sv_seq (sv_if (et_or (et_not (et_tru (ev_call (ea_cons (ev_c T.v_ZERO) (ea_cons (ev_tup (ea_cons (ev_int _) (ea_cons (ev_int _) ea_nil))) ea_nil)) nil_ds))) (et_not (et_tru (ev_call (ea_cons (ev_c T.v_ONE) (ea_cons (ev_tup (ea_cons (ev_int _) (ea_cons (ev_int _) ea_nil))) ea_nil)) nil_ds)))) (sv_ret (ev_bl _)) sv_next) (sv_seq (sv_for (iv_rng1 (ea_cons (ev_int _) ea_nil)) gv_name (sv_seq (sv_if (et_or (et_not (et_tru (ev_callH ea_nil))) (et_or (et_not (et_tru (ev_callH ea_nil))) (et_not (et_tru (ev_callH ea_nil))))) (sv_ret (ev_bl _)) sv_next) (sv_if (et_or (et_not (et_tru (ev_callH ea_nil))) (et_not (et_tru (ev_callH ea_nil)))) (sv_ret (ev_bl _)) sv_next))) (sv_ret (ev_bl _)))))⟩)
end Law

set_option Elab.async false
set_option linter.all false
set_option maxRecDepth 100000
set_option maxHeartbeats 2000000
noncomputable section
namespace Law
open PySem L2 Py
theorem pl_mixed {a t : Int} (h1 : 0 ≤ a) (h2 : a < 2 ^ 40) (h3 : 0 ≤ t) (h4 : t < 2 ^ 20) : ∃ r, f__law_mixed [.int a, .int t] = .ok (.int r) := by
  have g1 : ∀ z : Int, 0 ≤ z.fmod 2147483399 := fun z => fmod_lo (by decide)
  have g2 : ∀ z : Int, z.fmod 2147483399 < 2147483399 := fun z => fmod_hi (by decide)
  have g3 : ∀ z : Int, 0 ≤ z.fmod 2147483629 := fun z => fmod_lo (by decide)
  have g4 : ∀ z : Int, z.fmod 2147483629 < 2147483629 := fun z => fmod_hi (by decide)
  obtain ⟨o, ho⟩ : ∃ o, o = (a * 48271 + t * 7919 + 30011).fmod 2147483399 := ⟨_, rfl⟩
  have o1 := g1 (a * 48271 + t * 7919 + 30011)
  have o2 := g2 (a * 48271 + t * 7919 + 30011)
  rw [← ho] at o1 o2
  obtain ⟨u, hu⟩ : ∃ u, u = (o * o + t * 92821 + o.fdiv 131).fmod 2147483629 := ⟨_, rfl⟩
  have u1 := g3 (o * o + t * 92821 + o.fdiv 131)
  have u2 := g4 (o * o + t * 92821 + o.fdiv 131)
  rw [← hu] at u1 u2
  apply Exists.intro
  unfold f__law_mixed
  have e1 : dMod (.int (a * 48271 + t * 7919 + 30011)) (.int 2147483399) = some (.int o) := by rw [dMod_of (by decide), ho]
  have e2 : dMod (.int (o * o + t * 92821 + o.fdiv 131)) (.int 2147483629) = some (.int u) := by rw [dMod_of (by decide), hu]
  unfold m__law_mixed
  simp (disch := first | omega | assumption | (simp only [List.length_cons, List.length_nil, List.length_map, List.length_append, List.length_set]; omega)) only [E_c, E_var, E_own, E_bin, E_bin1, E_bin1x, E_bin2, E_bin2x, E_opt, E_un, E_un1, E_un1x, E_nil, E_cons, E_cons1, E_cons1x, E_cons2, E_cons2x, E_aF, E_tB, E_fB, E_fBx, E_tT, E_fT, E_fTx, E_selt, E_self, E_if, E_ifx, E_rOk, E_tAnd, E_tOr, E_tNot, E_fNotR, E_fNotRx, E_and, E_and1, E_and1x, E_or, E_or1, E_or1x, E_not, E_not1, E_not1x, E_eIf, E_selT, E_call, E_call1, E_call1x, E_to, E_tox, E_callN, E_callN1, E_toN, E_callH, E_ifOwn, E_callH1, E_callH2, E_toH, E_ixO, E_ixO1, E_ixO2, E_move, E_move1, E_ownA, E_ownA1, E_ownV, E_varV, E_seq, E_then, E_thenr, E_thenx, E_thenb, E_thenc, E_seqN, E_thenN, E_next, E_brk, E_ct, E_expr, E_expr1, E_expr1x, E_set, E_set1, E_set1x, E_ret, E_ret1, E_ret1x, E_retN, E_ifS, E_ifS1, E_ifS1x, E_asg, E_asg1, E_asg1x, E_asg2, E_nm, E_nilG, E_consG, E_obind, E_tupG2, E_tupG3, E_tupG4, E_par, E_par1, E_app, E_ifOwnS, E_app1, E_app1x, E_app20, E_app2, E_setIx, E_SI1, E_SI2, E_SI3, E_SI4, E_for, E_for1, E_for1x, E_items, E_items1, E_itL, E_itS, E_itT, E_rng1, E_rng11, E_rng2, E_rng21, E_lc, E_lc1, E_lc1x, E_lc2, E_runF, E_runr, E_runn, E_runx, E_runN, E_runNr, E_runH, E_runHr, E_runHn, E_runH2, E_raise1, E_R1, E_raise2, E_R2, E_R22, E_raise0, E_try, E_try1, E_tryr, E_tryx, E_try2, E_try2f, E_beh, E_behr, E_behb, E_behc, E_sl, E_sl1, E_sl2, E_sl3, E_sl3t, E_oN, E_oS, E_oS1, E_ch, E_ch1, E_ch2, E_ch3t, E_ch3f, E_ch4, E_enum, E_enum1, E_zip, E_zip1, E_zip1t, E_add, E_sub, E_neg, E_lt, E_le, E_gt, E_ge, E_eq, E_ne, E_mod, E_trI, E_trB, E_trN, E_trL, E_trT, E_lenL, E_lenT, E_lenS, E_listS, E_intB, E_intI, E_abs, E_listL, E_listT, E_tupleL, E_tupleT, E_dTup0, E_dTup1, E_dTup2, E_dTup3, E_dTup4, E_dTup5, E_dTup6, E_dTup7, E_dTup8, E_dTup9, E_dTup10, E_dTup11, E_dTup12, E_dLst0, E_dLst1, E_dLst2, E_dLst3, E_dLst4, E_dLst5, E_dLst6, E_dLst7, E_dLst8, E_dLst9, E_dLst10, E_dLst11, E_dLst12, E_gcd, E_isNnon, E_notN, E_isB, E_notB, E_ixL, E_ixT, E_at0, E_at1, E_at2, E_at3, E_at4, E_at5, E_isi_int_N, E_isi_int_B, E_isi_int_I, E_isi_int_S, E_isi_int_T, E_isi_int_L, E_isi_int_C, E_isi_bool_N, E_isi_bool_B, E_isi_bool_I, E_isi_bool_S, E_isi_bool_T, E_isi_bool_L, E_isi_bool_C, E_isi_str_N, E_isi_str_B, E_isi_str_I, E_isi_str_S, E_isi_str_T, E_isi_str_L, E_isi_str_C, E_isi_list_N, E_isi_list_B, E_isi_list_I, E_isi_list_S, E_isi_list_T, E_isi_list_L, E_isi_list_C, E_isi_tuple_N, E_isi_tuple_B, E_isi_tuple_I, E_isi_tuple_S, E_isi_tuple_T, E_isi_tuple_L, E_isi_tuple_C, E_isi2_N, E_isi2_B, E_isi2_I, E_isi2_S, E_isi2_T, E_isi2_L, E_isi2_C, E_isN_B, E_notN_B, E_isN_I, E_notN_I, E_isN_S, E_notN_S, E_isN_T, E_notN_T, E_isN_L, E_notN_L, E_isN_C, E_notN_C, E_isa1, E_isa2, E_lk1, E_xf, E_fam, E_mul, E_fdiv, E_ixN, E_decT, E_decF, List.getElem?_cons_zero, List.getElem?_cons_succ, List.set_cons_zero, List.set_cons_succ, List.length_cons, List.length_nil, List.length_map, List.append_nil, List.cons_append, List.nil_append, entry, List.map_cons, List.map_nil, List.replicate_succ, List.replicate_zero, Nat.reduceAdd, Nat.reduceSub, Nat.reduceLT, Nat.reduceLeDiff, Nat.reduceEqDiff, Nat.zero_add, ↓reduceIte, decide_true, decide_false, Bool.not_true, Bool.not_false, eq_self, ne_eq, not_true_eq_false, not_false_eq_true, Int.reduceEq, Int.reduceToNat, Int.toNat_natCast, Int.reduceNe, Int.reduceLT, Int.reduceLE, Int.reduceNeg, Nat.reduceLeDiff, if_true, if_false, decide_not, Bool.true_and, Bool.and_true, Bool.false_and, Bool.and_false, Bool.not_not, reduceCtorEq, e1, e2]
  rfl
end Law

set_option Elab.async false
set_option linter.all false
set_option maxRecDepth 100000
set_option maxHeartbeats 2000000
noncomputable section
namespace Law
open PySem L2 Py
def Hd (cells : List Int) (p r t : Int) : List D := [.lst (cells.map D.int), .int p, .int r, .int t]
def Good (l : List D) : Prop := ∃ cells p r t, l = Hd cells p r t ∧ cells.length ≤ 63 ∧ (∀ c ∈ cells, 0 ≤ c) ∧ 0 ≤ p ∧ p ≤ 63 ∧ 0 ≤ r ∧ 0 ≤ t ∧ t < 2147483549
theorem pl_take {l : List D} {many : Int} (g : Good l) (h0 : 0 < many) (hb : Bd 4000 many) : ∃ x l', f__law_take l [.int many] = .ok (.int x, l') ∧ 0 ≤ x ∧ x < many ∧ Good l' := by
  obtain ⟨cells, p, r, t, rfl, hn, hc, p0, p1, r0, t0, t1⟩ := g
  have hl : (cells.map D.int).length = cells.length := List.length_map _
  have fl : ∀ z : Int, 0 ≤ z.fmod many := fun z => fmod_lo h0
  have fh : ∀ z : Int, z.fmod many < many := fun z => fmod_hi h0
  have eP : dPow (.int 10) (.int 18) = some (.int 1000000000000000000) := by rfl
  have rest : ∀ cells p q t, cells.length ≤ 63 → (∀ c ∈ cells, (0 : Int) ≤ c) → (0 : Int) ≤ p → p ≤ 63 → (0 : Int) < q → (0 : Int) ≤ t → t < 2147483549 → Good (Hd cells p (q.fdiv many) t) := fun cells p q t h1 h2 h3 h4 h5 h6 h7 => ⟨cells, p, _, t, rfl, h1, h2, h3, h4, Int.fdiv_nonneg (by omega) (by omega), h6, h7⟩
  have eD : ∀ q : Int, dFdiv (.int q) (.int many) = some (.int (q.fdiv many)) := fun q => dFdiv_of hb (by decide) (by omega)
  unfold f__law_take
  by_cases hr : r = 0
  · by_cases hp : p < cells.length
    · obtain ⟨n, rfl⟩ : ∃ n : Nat, p = n := ⟨p.toNat, by omega⟩
      have hn2 : n < cells.length := by omega
      have c0 := hc cells[n] (List.getElem_mem hn2)
      have eI : dIx (.lst (cells.map D.int)) (.int n) = some (.int cells[n]) := by
        refine atI_of rfl ?_
        rw [List.getElem?_map, List.getElem?_eq_getElem hn2]; rfl
      generalize cells[n] = c at *
      by_cases h18 : c < 1000000000000000000
      · have q1 : 0 ≤ c.fmod 2147483399 := fmod_lo (by decide)
        have q2 : c.fmod 2147483399 < 2147483399 := fmod_hi (by decide)
        obtain ⟨m, hm⟩ := pl_mixed (a := c.fmod 2147483399) (t := (n : Int) + 1) q1 (by omega) (by omega) (by omega)
        refine ⟨m.fmod many, Hd cells (n + 1) r t, ?_, fl _, fh _, ⟨cells, n + 1, r, t, rfl, hn, hc, by omega, by omega, r0, t0, t1⟩⟩
        unfold Hd m__law_take
        (simp (disch := first | omega | assumption | (simp only [List.length_cons, List.length_nil, List.length_map, List.length_append, List.length_set]; omega)) only [E_c, E_var, E_own, E_bin, E_bin1, E_bin1x, E_bin2, E_bin2x, E_opt, E_un, E_un1, E_un1x, E_nil, E_cons, E_cons1, E_cons1x, E_cons2, E_cons2x, E_aF, E_tB, E_fB, E_fBx, E_tT, E_fT, E_fTx, E_selt, E_self, E_if, E_ifx, E_rOk, E_tAnd, E_tOr, E_tNot, E_fNotR, E_fNotRx, E_and, E_and1, E_and1x, E_or, E_or1, E_or1x, E_not, E_not1, E_not1x, E_eIf, E_selT, E_call, E_call1, E_call1x, E_to, E_tox, E_callN, E_callN1, E_toN, E_callH, E_ifOwn, E_callH1, E_callH2, E_toH, E_ixO, E_ixO1, E_ixO2, E_move, E_move1, E_ownA, E_ownA1, E_ownV, E_varV, E_seq, E_then, E_thenr, E_thenx, E_thenb, E_thenc, E_seqN, E_thenN, E_next, E_brk, E_ct, E_expr, E_expr1, E_expr1x, E_set, E_set1, E_set1x, E_ret, E_ret1, E_ret1x, E_retN, E_ifS, E_ifS1, E_ifS1x, E_asg, E_asg1, E_asg1x, E_asg2, E_nm, E_nilG, E_consG, E_obind, E_tupG2, E_tupG3, E_tupG4, E_par, E_par1, E_app, E_ifOwnS, E_app1, E_app1x, E_app20, E_app2, E_setIx, E_SI1, E_SI2, E_SI3, E_SI4, E_for, E_for1, E_for1x, E_items, E_items1, E_itL, E_itS, E_itT, E_rng1, E_rng11, E_rng2, E_rng21, E_lc, E_lc1, E_lc1x, E_lc2, E_runF, E_runr, E_runn, E_runx, E_runN, E_runNr, E_runH, E_runHr, E_runHn, E_runH2, E_raise1, E_R1, E_raise2, E_R2, E_R22, E_raise0, E_try, E_try1, E_tryr, E_tryx, E_try2, E_try2f, E_beh, E_behr, E_behb, E_behc, E_sl, E_sl1, E_sl2, E_sl3, E_sl3t, E_oN, E_oS, E_oS1, E_ch, E_ch1, E_ch2, E_ch3t, E_ch3f, E_ch4, E_enum, E_enum1, E_zip, E_zip1, E_zip1t, E_add, E_sub, E_neg, E_lt, E_le, E_gt, E_ge, E_eq, E_ne, E_mod, E_trI, E_trB, E_trN, E_trL, E_trT, E_lenL, E_lenT, E_lenS, E_listS, E_intB, E_intI, E_abs, E_listL, E_listT, E_tupleL, E_tupleT, E_dTup0, E_dTup1, E_dTup2, E_dTup3, E_dTup4, E_dTup5, E_dTup6, E_dTup7, E_dTup8, E_dTup9, E_dTup10, E_dTup11, E_dTup12, E_dLst0, E_dLst1, E_dLst2, E_dLst3, E_dLst4, E_dLst5, E_dLst6, E_dLst7, E_dLst8, E_dLst9, E_dLst10, E_dLst11, E_dLst12, E_gcd, E_isNnon, E_notN, E_isB, E_notB, E_ixL, E_ixT, E_at0, E_at1, E_at2, E_at3, E_at4, E_at5, E_isi_int_N, E_isi_int_B, E_isi_int_I, E_isi_int_S, E_isi_int_T, E_isi_int_L, E_isi_int_C, E_isi_bool_N, E_isi_bool_B, E_isi_bool_I, E_isi_bool_S, E_isi_bool_T, E_isi_bool_L, E_isi_bool_C, E_isi_str_N, E_isi_str_B, E_isi_str_I, E_isi_str_S, E_isi_str_T, E_isi_str_L, E_isi_str_C, E_isi_list_N, E_isi_list_B, E_isi_list_I, E_isi_list_S, E_isi_list_T, E_isi_list_L, E_isi_list_C, E_isi_tuple_N, E_isi_tuple_B, E_isi_tuple_I, E_isi_tuple_S, E_isi_tuple_T, E_isi_tuple_L, E_isi_tuple_C, E_isi2_N, E_isi2_B, E_isi2_I, E_isi2_S, E_isi2_T, E_isi2_L, E_isi2_C, E_isN_B, E_notN_B, E_isN_I, E_notN_I, E_isN_S, E_notN_S, E_isN_T, E_notN_T, E_isN_L, E_notN_L, E_isN_C, E_notN_C, E_isa1, E_isa2, E_lk1, E_xf, E_fam, E_mul, E_fdiv, E_ixN, E_decT, E_decF, List.getElem?_cons_zero, List.getElem?_cons_succ, List.set_cons_zero, List.set_cons_succ, List.length_cons, List.length_nil, List.length_map, List.append_nil, List.cons_append, List.nil_append, entry, List.map_cons, List.map_nil, List.replicate_succ, List.replicate_zero, Nat.reduceAdd, Nat.reduceSub, Nat.reduceLT, Nat.reduceLeDiff, Nat.reduceEqDiff, Nat.zero_add, ↓reduceIte, decide_true, decide_false, Bool.not_true, Bool.not_false, eq_self, ne_eq, not_true_eq_false, not_false_eq_true, Int.reduceEq, Int.reduceToNat, Int.toNat_natCast, Int.reduceNe, Int.reduceLT, Int.reduceLE, Int.reduceNeg, Nat.reduceLeDiff, if_true, if_false, decide_not, Bool.true_and, Bool.and_true, Bool.false_and, Bool.and_false, Bool.not_not, reduceCtorEq, eP, eI, hm] <;> rfl)
      · refine ⟨c.fmod many, Hd cells (n + 1) (c.fdiv many) t, ?_, fl _, fh _, rest cells _ c t hn hc (by omega) (by omega) (by omega) t0 t1⟩
        unfold Hd m__law_take
        (simp (disch := first | omega | assumption | (simp only [List.length_cons, List.length_nil, List.length_map, List.length_append, List.length_set]; omega)) only [E_c, E_var, E_own, E_bin, E_bin1, E_bin1x, E_bin2, E_bin2x, E_opt, E_un, E_un1, E_un1x, E_nil, E_cons, E_cons1, E_cons1x, E_cons2, E_cons2x, E_aF, E_tB, E_fB, E_fBx, E_tT, E_fT, E_fTx, E_selt, E_self, E_if, E_ifx, E_rOk, E_tAnd, E_tOr, E_tNot, E_fNotR, E_fNotRx, E_and, E_and1, E_and1x, E_or, E_or1, E_or1x, E_not, E_not1, E_not1x, E_eIf, E_selT, E_call, E_call1, E_call1x, E_to, E_tox, E_callN, E_callN1, E_toN, E_callH, E_ifOwn, E_callH1, E_callH2, E_toH, E_ixO, E_ixO1, E_ixO2, E_move, E_move1, E_ownA, E_ownA1, E_ownV, E_varV, E_seq, E_then, E_thenr, E_thenx, E_thenb, E_thenc, E_seqN, E_thenN, E_next, E_brk, E_ct, E_expr, E_expr1, E_expr1x, E_set, E_set1, E_set1x, E_ret, E_ret1, E_ret1x, E_retN, E_ifS, E_ifS1, E_ifS1x, E_asg, E_asg1, E_asg1x, E_asg2, E_nm, E_nilG, E_consG, E_obind, E_tupG2, E_tupG3, E_tupG4, E_par, E_par1, E_app, E_ifOwnS, E_app1, E_app1x, E_app20, E_app2, E_setIx, E_SI1, E_SI2, E_SI3, E_SI4, E_for, E_for1, E_for1x, E_items, E_items1, E_itL, E_itS, E_itT, E_rng1, E_rng11, E_rng2, E_rng21, E_lc, E_lc1, E_lc1x, E_lc2, E_runF, E_runr, E_runn, E_runx, E_runN, E_runNr, E_runH, E_runHr, E_runHn, E_runH2, E_raise1, E_R1, E_raise2, E_R2, E_R22, E_raise0, E_try, E_try1, E_tryr, E_tryx, E_try2, E_try2f, E_beh, E_behr, E_behb, E_behc, E_sl, E_sl1, E_sl2, E_sl3, E_sl3t, E_oN, E_oS, E_oS1, E_ch, E_ch1, E_ch2, E_ch3t, E_ch3f, E_ch4, E_enum, E_enum1, E_zip, E_zip1, E_zip1t, E_add, E_sub, E_neg, E_lt, E_le, E_gt, E_ge, E_eq, E_ne, E_mod, E_trI, E_trB, E_trN, E_trL, E_trT, E_lenL, E_lenT, E_lenS, E_listS, E_intB, E_intI, E_abs, E_listL, E_listT, E_tupleL, E_tupleT, E_dTup0, E_dTup1, E_dTup2, E_dTup3, E_dTup4, E_dTup5, E_dTup6, E_dTup7, E_dTup8, E_dTup9, E_dTup10, E_dTup11, E_dTup12, E_dLst0, E_dLst1, E_dLst2, E_dLst3, E_dLst4, E_dLst5, E_dLst6, E_dLst7, E_dLst8, E_dLst9, E_dLst10, E_dLst11, E_dLst12, E_gcd, E_isNnon, E_notN, E_isB, E_notB, E_ixL, E_ixT, E_at0, E_at1, E_at2, E_at3, E_at4, E_at5, E_isi_int_N, E_isi_int_B, E_isi_int_I, E_isi_int_S, E_isi_int_T, E_isi_int_L, E_isi_int_C, E_isi_bool_N, E_isi_bool_B, E_isi_bool_I, E_isi_bool_S, E_isi_bool_T, E_isi_bool_L, E_isi_bool_C, E_isi_str_N, E_isi_str_B, E_isi_str_I, E_isi_str_S, E_isi_str_T, E_isi_str_L, E_isi_str_C, E_isi_list_N, E_isi_list_B, E_isi_list_I, E_isi_list_S, E_isi_list_T, E_isi_list_L, E_isi_list_C, E_isi_tuple_N, E_isi_tuple_B, E_isi_tuple_I, E_isi_tuple_S, E_isi_tuple_T, E_isi_tuple_L, E_isi_tuple_C, E_isi2_N, E_isi2_B, E_isi2_I, E_isi2_S, E_isi2_T, E_isi2_L, E_isi2_C, E_isN_B, E_notN_B, E_isN_I, E_notN_I, E_isN_S, E_notN_S, E_isN_T, E_notN_T, E_isN_L, E_notN_L, E_isN_C, E_notN_C, E_isa1, E_isa2, E_lk1, E_xf, E_fam, E_mul, E_fdiv, E_ixN, E_decT, E_decF, List.getElem?_cons_zero, List.getElem?_cons_succ, List.set_cons_zero, List.set_cons_succ, List.length_cons, List.length_nil, List.length_map, List.append_nil, List.cons_append, List.nil_append, entry, List.map_cons, List.map_nil, List.replicate_succ, List.replicate_zero, Nat.reduceAdd, Nat.reduceSub, Nat.reduceLT, Nat.reduceLeDiff, Nat.reduceEqDiff, Nat.zero_add, ↓reduceIte, decide_true, decide_false, Bool.not_true, Bool.not_false, eq_self, ne_eq, not_true_eq_false, not_false_eq_true, Int.reduceEq, Int.reduceToNat, Int.toNat_natCast, Int.reduceNe, Int.reduceLT, Int.reduceLE, Int.reduceNeg, Nat.reduceLeDiff, if_true, if_false, decide_not, Bool.true_and, Bool.and_true, Bool.false_and, Bool.and_false, Bool.not_not, reduceCtorEq, eP, eI, eD] <;> rfl)
    · have z1 : 0 ≤ (t + 1).fmod 2147483549 := fmod_lo (by decide)
      have z2 : (t + 1).fmod 2147483549 < 2147483549 := fmod_hi (by decide)
      obtain ⟨m, hm⟩ := pl_mixed (a := (t + 1).fmod 2147483549) (t := p) z1 (by omega) p0 (by omega)
      refine ⟨m.fmod many, Hd cells p r ((t + 1).fmod 2147483549), ?_, fl _, fh _, ⟨cells, p, r, _, rfl, hn, hc, p0, p1, r0, z1, z2⟩⟩
      unfold Hd m__law_take
      (simp (disch := first | omega | assumption | (simp only [List.length_cons, List.length_nil, List.length_map, List.length_append, List.length_set]; omega)) only [E_c, E_var, E_own, E_bin, E_bin1, E_bin1x, E_bin2, E_bin2x, E_opt, E_un, E_un1, E_un1x, E_nil, E_cons, E_cons1, E_cons1x, E_cons2, E_cons2x, E_aF, E_tB, E_fB, E_fBx, E_tT, E_fT, E_fTx, E_selt, E_self, E_if, E_ifx, E_rOk, E_tAnd, E_tOr, E_tNot, E_fNotR, E_fNotRx, E_and, E_and1, E_and1x, E_or, E_or1, E_or1x, E_not, E_not1, E_not1x, E_eIf, E_selT, E_call, E_call1, E_call1x, E_to, E_tox, E_callN, E_callN1, E_toN, E_callH, E_ifOwn, E_callH1, E_callH2, E_toH, E_ixO, E_ixO1, E_ixO2, E_move, E_move1, E_ownA, E_ownA1, E_ownV, E_varV, E_seq, E_then, E_thenr, E_thenx, E_thenb, E_thenc, E_seqN, E_thenN, E_next, E_brk, E_ct, E_expr, E_expr1, E_expr1x, E_set, E_set1, E_set1x, E_ret, E_ret1, E_ret1x, E_retN, E_ifS, E_ifS1, E_ifS1x, E_asg, E_asg1, E_asg1x, E_asg2, E_nm, E_nilG, E_consG, E_obind, E_tupG2, E_tupG3, E_tupG4, E_par, E_par1, E_app, E_ifOwnS, E_app1, E_app1x, E_app20, E_app2, E_setIx, E_SI1, E_SI2, E_SI3, E_SI4, E_for, E_for1, E_for1x, E_items, E_items1, E_itL, E_itS, E_itT, E_rng1, E_rng11, E_rng2, E_rng21, E_lc, E_lc1, E_lc1x, E_lc2, E_runF, E_runr, E_runn, E_runx, E_runN, E_runNr, E_runH, E_runHr, E_runHn, E_runH2, E_raise1, E_R1, E_raise2, E_R2, E_R22, E_raise0, E_try, E_try1, E_tryr, E_tryx, E_try2, E_try2f, E_beh, E_behr, E_behb, E_behc, E_sl, E_sl1, E_sl2, E_sl3, E_sl3t, E_oN, E_oS, E_oS1, E_ch, E_ch1, E_ch2, E_ch3t, E_ch3f, E_ch4, E_enum, E_enum1, E_zip, E_zip1, E_zip1t, E_add, E_sub, E_neg, E_lt, E_le, E_gt, E_ge, E_eq, E_ne, E_mod, E_trI, E_trB, E_trN, E_trL, E_trT, E_lenL, E_lenT, E_lenS, E_listS, E_intB, E_intI, E_abs, E_listL, E_listT, E_tupleL, E_tupleT, E_dTup0, E_dTup1, E_dTup2, E_dTup3, E_dTup4, E_dTup5, E_dTup6, E_dTup7, E_dTup8, E_dTup9, E_dTup10, E_dTup11, E_dTup12, E_dLst0, E_dLst1, E_dLst2, E_dLst3, E_dLst4, E_dLst5, E_dLst6, E_dLst7, E_dLst8, E_dLst9, E_dLst10, E_dLst11, E_dLst12, E_gcd, E_isNnon, E_notN, E_isB, E_notB, E_ixL, E_ixT, E_at0, E_at1, E_at2, E_at3, E_at4, E_at5, E_isi_int_N, E_isi_int_B, E_isi_int_I, E_isi_int_S, E_isi_int_T, E_isi_int_L, E_isi_int_C, E_isi_bool_N, E_isi_bool_B, E_isi_bool_I, E_isi_bool_S, E_isi_bool_T, E_isi_bool_L, E_isi_bool_C, E_isi_str_N, E_isi_str_B, E_isi_str_I, E_isi_str_S, E_isi_str_T, E_isi_str_L, E_isi_str_C, E_isi_list_N, E_isi_list_B, E_isi_list_I, E_isi_list_S, E_isi_list_T, E_isi_list_L, E_isi_list_C, E_isi_tuple_N, E_isi_tuple_B, E_isi_tuple_I, E_isi_tuple_S, E_isi_tuple_T, E_isi_tuple_L, E_isi_tuple_C, E_isi2_N, E_isi2_B, E_isi2_I, E_isi2_S, E_isi2_T, E_isi2_L, E_isi2_C, E_isN_B, E_notN_B, E_isN_I, E_notN_I, E_isN_S, E_notN_S, E_isN_T, E_notN_T, E_isN_L, E_notN_L, E_isN_C, E_notN_C, E_isa1, E_isa2, E_lk1, E_xf, E_fam, E_mul, E_fdiv, E_ixN, E_decT, E_decF, List.getElem?_cons_zero, List.getElem?_cons_succ, List.set_cons_zero, List.set_cons_succ, List.length_cons, List.length_nil, List.length_map, List.append_nil, List.cons_append, List.nil_append, entry, List.map_cons, List.map_nil, List.replicate_succ, List.replicate_zero, Nat.reduceAdd, Nat.reduceSub, Nat.reduceLT, Nat.reduceLeDiff, Nat.reduceEqDiff, Nat.zero_add, ↓reduceIte, decide_true, decide_false, Bool.not_true, Bool.not_false, eq_self, ne_eq, not_true_eq_false, not_false_eq_true, Int.reduceEq, Int.reduceToNat, Int.toNat_natCast, Int.reduceNe, Int.reduceLT, Int.reduceLE, Int.reduceNeg, Nat.reduceLeDiff, if_true, if_false, decide_not, Bool.true_and, Bool.and_true, Bool.false_and, Bool.and_false, Bool.not_not, reduceCtorEq, eP, hm] <;> rfl)
  · refine ⟨r.fmod many, Hd cells p (r.fdiv many) t, ?_, fl _, fh _, rest cells p r t hn hc p0 p1 (by omega) t0 t1⟩
    unfold Hd m__law_take
    (simp (disch := first | omega | assumption | (simp only [List.length_cons, List.length_nil, List.length_map, List.length_append, List.length_set]; omega)) only [E_c, E_var, E_own, E_bin, E_bin1, E_bin1x, E_bin2, E_bin2x, E_opt, E_un, E_un1, E_un1x, E_nil, E_cons, E_cons1, E_cons1x, E_cons2, E_cons2x, E_aF, E_tB, E_fB, E_fBx, E_tT, E_fT, E_fTx, E_selt, E_self, E_if, E_ifx, E_rOk, E_tAnd, E_tOr, E_tNot, E_fNotR, E_fNotRx, E_and, E_and1, E_and1x, E_or, E_or1, E_or1x, E_not, E_not1, E_not1x, E_eIf, E_selT, E_call, E_call1, E_call1x, E_to, E_tox, E_callN, E_callN1, E_toN, E_callH, E_ifOwn, E_callH1, E_callH2, E_toH, E_ixO, E_ixO1, E_ixO2, E_move, E_move1, E_ownA, E_ownA1, E_ownV, E_varV, E_seq, E_then, E_thenr, E_thenx, E_thenb, E_thenc, E_seqN, E_thenN, E_next, E_brk, E_ct, E_expr, E_expr1, E_expr1x, E_set, E_set1, E_set1x, E_ret, E_ret1, E_ret1x, E_retN, E_ifS, E_ifS1, E_ifS1x, E_asg, E_asg1, E_asg1x, E_asg2, E_nm, E_nilG, E_consG, E_obind, E_tupG2, E_tupG3, E_tupG4, E_par, E_par1, E_app, E_ifOwnS, E_app1, E_app1x, E_app20, E_app2, E_setIx, E_SI1, E_SI2, E_SI3, E_SI4, E_for, E_for1, E_for1x, E_items, E_items1, E_itL, E_itS, E_itT, E_rng1, E_rng11, E_rng2, E_rng21, E_lc, E_lc1, E_lc1x, E_lc2, E_runF, E_runr, E_runn, E_runx, E_runN, E_runNr, E_runH, E_runHr, E_runHn, E_runH2, E_raise1, E_R1, E_raise2, E_R2, E_R22, E_raise0, E_try, E_try1, E_tryr, E_tryx, E_try2, E_try2f, E_beh, E_behr, E_behb, E_behc, E_sl, E_sl1, E_sl2, E_sl3, E_sl3t, E_oN, E_oS, E_oS1, E_ch, E_ch1, E_ch2, E_ch3t, E_ch3f, E_ch4, E_enum, E_enum1, E_zip, E_zip1, E_zip1t, E_add, E_sub, E_neg, E_lt, E_le, E_gt, E_ge, E_eq, E_ne, E_mod, E_trI, E_trB, E_trN, E_trL, E_trT, E_lenL, E_lenT, E_lenS, E_listS, E_intB, E_intI, E_abs, E_listL, E_listT, E_tupleL, E_tupleT, E_dTup0, E_dTup1, E_dTup2, E_dTup3, E_dTup4, E_dTup5, E_dTup6, E_dTup7, E_dTup8, E_dTup9, E_dTup10, E_dTup11, E_dTup12, E_dLst0, E_dLst1, E_dLst2, E_dLst3, E_dLst4, E_dLst5, E_dLst6, E_dLst7, E_dLst8, E_dLst9, E_dLst10, E_dLst11, E_dLst12, E_gcd, E_isNnon, E_notN, E_isB, E_notB, E_ixL, E_ixT, E_at0, E_at1, E_at2, E_at3, E_at4, E_at5, E_isi_int_N, E_isi_int_B, E_isi_int_I, E_isi_int_S, E_isi_int_T, E_isi_int_L, E_isi_int_C, E_isi_bool_N, E_isi_bool_B, E_isi_bool_I, E_isi_bool_S, E_isi_bool_T, E_isi_bool_L, E_isi_bool_C, E_isi_str_N, E_isi_str_B, E_isi_str_I, E_isi_str_S, E_isi_str_T, E_isi_str_L, E_isi_str_C, E_isi_list_N, E_isi_list_B, E_isi_list_I, E_isi_list_S, E_isi_list_T, E_isi_list_L, E_isi_list_C, E_isi_tuple_N, E_isi_tuple_B, E_isi_tuple_I, E_isi_tuple_S, E_isi_tuple_T, E_isi_tuple_L, E_isi_tuple_C, E_isi2_N, E_isi2_B, E_isi2_I, E_isi2_S, E_isi2_T, E_isi2_L, E_isi2_C, E_isN_B, E_notN_B, E_isN_I, E_notN_I, E_isN_S, E_notN_S, E_isN_T, E_notN_T, E_isN_L, E_notN_L, E_isN_C, E_notN_C, E_isa1, E_isa2, E_lk1, E_xf, E_fam, E_mul, E_fdiv, E_ixN, E_decT, E_decF, List.getElem?_cons_zero, List.getElem?_cons_succ, List.set_cons_zero, List.set_cons_succ, List.length_cons, List.length_nil, List.length_map, List.append_nil, List.cons_append, List.nil_append, entry, List.map_cons, List.map_nil, List.replicate_succ, List.replicate_zero, Nat.reduceAdd, Nat.reduceSub, Nat.reduceLT, Nat.reduceLeDiff, Nat.reduceEqDiff, Nat.zero_add, ↓reduceIte, decide_true, decide_false, Bool.not_true, Bool.not_false, eq_self, ne_eq, not_true_eq_false, not_false_eq_true, Int.reduceEq, Int.reduceToNat, Int.toNat_natCast, Int.reduceNe, Int.reduceLT, Int.reduceLE, Int.reduceNeg, Nat.reduceLeDiff, if_true, if_false, decide_not, Bool.true_and, Bool.and_true, Bool.false_and, Bool.and_false, Bool.not_not, reduceCtorEq, eP, eD] <;> rfl)
end Law

set_option Elab.async false
set_option linter.all false
set_option maxRecDepth 100000
set_option maxHeartbeats 2000000
noncomputable section
namespace Law
open PySem L2 Py
theorem handStep {z : D} {t n : Int} {l : List D} {e : Option D} (h1 : 0 ≤ t) (h2 : t < 2 ^ 40) (hl : l.length < 1000) :
    l1__law_hand [some z, some (.int t), some (.lst l), some (.int n)] = .nx [some z, some (.int ((t * 1723 + n).fmod 2147483549)), some (.lst (l ++ [.int (if n < 0 then -n else n)])), some (.int n)] := by
  unfold l1__law_hand
  have hl2 : l.length < 1000000 := by omega
  (simp (disch := first | omega | assumption | (simp only [List.length_cons, List.length_nil, List.length_map, List.length_append, List.length_set]; omega)) only [E_c, E_var, E_own, E_bin, E_bin1, E_bin1x, E_bin2, E_bin2x, E_opt, E_un, E_un1, E_un1x, E_nil, E_cons, E_cons1, E_cons1x, E_cons2, E_cons2x, E_aF, E_tB, E_fB, E_fBx, E_tT, E_fT, E_fTx, E_selt, E_self, E_if, E_ifx, E_rOk, E_tAnd, E_tOr, E_tNot, E_fNotR, E_fNotRx, E_and, E_and1, E_and1x, E_or, E_or1, E_or1x, E_not, E_not1, E_not1x, E_eIf, E_selT, E_call, E_call1, E_call1x, E_to, E_tox, E_callN, E_callN1, E_toN, E_callH, E_ifOwn, E_callH1, E_callH2, E_toH, E_ixO, E_ixO1, E_ixO2, E_move, E_move1, E_ownA, E_ownA1, E_ownV, E_varV, E_seq, E_then, E_thenr, E_thenx, E_thenb, E_thenc, E_seqN, E_thenN, E_next, E_brk, E_ct, E_expr, E_expr1, E_expr1x, E_set, E_set1, E_set1x, E_ret, E_ret1, E_ret1x, E_retN, E_ifS, E_ifS1, E_ifS1x, E_asg, E_asg1, E_asg1x, E_asg2, E_nm, E_nilG, E_consG, E_obind, E_tupG2, E_tupG3, E_tupG4, E_par, E_par1, E_app, E_ifOwnS, E_app1, E_app1x, E_app20, E_app2, E_setIx, E_SI1, E_SI2, E_SI3, E_SI4, E_for, E_for1, E_for1x, E_items, E_items1, E_itL, E_itS, E_itT, E_rng1, E_rng11, E_rng2, E_rng21, E_lc, E_lc1, E_lc1x, E_lc2, E_runF, E_runr, E_runn, E_runx, E_runN, E_runNr, E_runH, E_runHr, E_runHn, E_runH2, E_raise1, E_R1, E_raise2, E_R2, E_R22, E_raise0, E_try, E_try1, E_tryr, E_tryx, E_try2, E_try2f, E_beh, E_behr, E_behb, E_behc, E_sl, E_sl1, E_sl2, E_sl3, E_sl3t, E_oN, E_oS, E_oS1, E_ch, E_ch1, E_ch2, E_ch3t, E_ch3f, E_ch4, E_enum, E_enum1, E_zip, E_zip1, E_zip1t, E_add, E_sub, E_neg, E_lt, E_le, E_gt, E_ge, E_eq, E_ne, E_mod, E_trI, E_trB, E_trN, E_trL, E_trT, E_lenL, E_lenT, E_lenS, E_listS, E_intB, E_intI, E_abs, E_listL, E_listT, E_tupleL, E_tupleT, E_dTup0, E_dTup1, E_dTup2, E_dTup3, E_dTup4, E_dTup5, E_dTup6, E_dTup7, E_dTup8, E_dTup9, E_dTup10, E_dTup11, E_dTup12, E_dLst0, E_dLst1, E_dLst2, E_dLst3, E_dLst4, E_dLst5, E_dLst6, E_dLst7, E_dLst8, E_dLst9, E_dLst10, E_dLst11, E_dLst12, E_gcd, E_isNnon, E_notN, E_isB, E_notB, E_ixL, E_ixT, E_at0, E_at1, E_at2, E_at3, E_at4, E_at5, E_isi_int_N, E_isi_int_B, E_isi_int_I, E_isi_int_S, E_isi_int_T, E_isi_int_L, E_isi_int_C, E_isi_bool_N, E_isi_bool_B, E_isi_bool_I, E_isi_bool_S, E_isi_bool_T, E_isi_bool_L, E_isi_bool_C, E_isi_str_N, E_isi_str_B, E_isi_str_I, E_isi_str_S, E_isi_str_T, E_isi_str_L, E_isi_str_C, E_isi_list_N, E_isi_list_B, E_isi_list_I, E_isi_list_S, E_isi_list_T, E_isi_list_L, E_isi_list_C, E_isi_tuple_N, E_isi_tuple_B, E_isi_tuple_I, E_isi_tuple_S, E_isi_tuple_T, E_isi_tuple_L, E_isi_tuple_C, E_isi2_N, E_isi2_B, E_isi2_I, E_isi2_S, E_isi2_T, E_isi2_L, E_isi2_C, E_isN_B, E_notN_B, E_isN_I, E_notN_I, E_isN_S, E_notN_S, E_isN_T, E_notN_T, E_isN_L, E_notN_L, E_isN_C, E_notN_C, E_isa1, E_isa2, E_lk1, E_xf, E_fam, E_mul, E_fdiv, E_ixN, E_decT, E_decF, List.getElem?_cons_zero, List.getElem?_cons_succ, List.set_cons_zero, List.set_cons_succ, List.length_cons, List.length_nil, List.length_map, List.append_nil, List.cons_append, List.nil_append, entry, List.map_cons, List.map_nil, List.replicate_succ, List.replicate_zero, Nat.reduceAdd, Nat.reduceSub, Nat.reduceLT, Nat.reduceLeDiff, Nat.reduceEqDiff, Nat.zero_add, ↓reduceIte, decide_true, decide_false, Bool.not_true, Bool.not_false, eq_self, ne_eq, not_true_eq_false, not_false_eq_true, Int.reduceEq, Int.reduceToNat, Int.toNat_natCast, Int.reduceNe, Int.reduceLT, Int.reduceLE, Int.reduceNeg, Nat.reduceLeDiff, if_true, if_false, decide_not, Bool.true_and, Bool.and_true, Bool.false_and, Bool.and_false, Bool.not_not, reduceCtorEq, hl2] <;> rfl)
theorem pl_hand (ns : List Int) (hn : ns.length ≤ 63) : ∃ l, f__law_hand [.scr ns] = .ok (.lst l) ∧ Good l := by
  have loop : ∀ (ms : List Int) (cs : List Int) (t : Int) (e : Option D), cs.length + ms.length ≤ 63 → 0 ≤ t → t < 2147483549 → (∀ c ∈ cs, 0 ≤ c) →
      ∃ (cs' : List Int) (t' : Int) (e' : Option D), forL (nmG 3) l1__law_hand (ms.map D.int) [some (.scr ns), some (.int t), some (.lst (cs.map D.int)), e] = .nx [some (.scr ns), some (.int t'), some (.lst (cs'.map D.int)), e'] ∧ cs'.length ≤ 63 ∧ 0 ≤ t' ∧ t' < 2147483549 ∧ ∀ c ∈ cs', 0 ≤ c := by
    intro ms
    induction ms with
    | nil => exact fun cs t e h1 h2 h3 h4 => ⟨cs, t, e, rfl, by simpa using h1, h2, h3, h4⟩
    | cons m ms ih =>
      intro cs t e h1 h2 h3 h4
      have st := handStep (z := .scr ns) (t := t) (n := m) (l := cs.map D.int) (e := e) h2 (by omega) (by rw [List.length_map]; simp at h1; omega)
      obtain ⟨cs', t', e', q1, q2⟩ := ih (cs ++ [if m < 0 then -m else m]) ((t * 1723 + m).fmod 2147483549) (some (.int m)) (by simp at h1 ⊢; omega) (fmod_lo (by decide)) (fmod_hi (by decide)) (fun c hc => by
        rcases List.mem_append.mp hc with h | h
        · exact h4 c h
        · rw [List.mem_singleton.mp h]; split <;> omega)
      refine ⟨cs', t', e', ?_, q2⟩
      rw [← q1]
      show (match l1__law_hand [some (D.scr ns), some (.int t), some (.lst (cs.map D.int)), some (.int m)] with | .nx ρ2 => forL (nmG 3) l1__law_hand (ms.map D.int) ρ2 | .ct ρ2 => forL (nmG 3) l1__law_hand (ms.map D.int) ρ2 | .brk ρ2 => .nx ρ2 | .ret d ρ2 => .ret d ρ2 | .exc e ρ2 => .exc e ρ2 | .stuck => .stuck) = _
      rw [st, List.map_append]
      rfl
  obtain ⟨cs, t, e, q1, q2, q3, q4, q5⟩ := loop ns [] ((ns.length : Int) + 41) none (by simpa using hn) (by omega) (by omega) (fun _ h => by cases h)
  refine ⟨Hd cs 0 0 t, ?_, ⟨cs, 0, 0, t, rfl, q2, q5, by decide, by decide, by decide, q3, q4⟩⟩
  have ei : itemsD (.scr ns) = some (ns.map D.int) := rfl
  unfold f__law_hand m__law_hand Hd
  simp only [List.map_nil] at q1
  (simp (disch := first | omega | assumption | (simp only [List.length_cons, List.length_nil, List.length_map, List.length_append, List.length_set]; omega)) only [E_c, E_var, E_own, E_bin, E_bin1, E_bin1x, E_bin2, E_bin2x, E_opt, E_un, E_un1, E_un1x, E_nil, E_cons, E_cons1, E_cons1x, E_cons2, E_cons2x, E_aF, E_tB, E_fB, E_fBx, E_tT, E_fT, E_fTx, E_selt, E_self, E_if, E_ifx, E_rOk, E_tAnd, E_tOr, E_tNot, E_fNotR, E_fNotRx, E_and, E_and1, E_and1x, E_or, E_or1, E_or1x, E_not, E_not1, E_not1x, E_eIf, E_selT, E_call, E_call1, E_call1x, E_to, E_tox, E_callN, E_callN1, E_toN, E_callH, E_ifOwn, E_callH1, E_callH2, E_toH, E_ixO, E_ixO1, E_ixO2, E_move, E_move1, E_ownA, E_ownA1, E_ownV, E_varV, E_seq, E_then, E_thenr, E_thenx, E_thenb, E_thenc, E_seqN, E_thenN, E_next, E_brk, E_ct, E_expr, E_expr1, E_expr1x, E_set, E_set1, E_set1x, E_ret, E_ret1, E_ret1x, E_retN, E_ifS, E_ifS1, E_ifS1x, E_asg, E_asg1, E_asg1x, E_asg2, E_nm, E_nilG, E_consG, E_obind, E_tupG2, E_tupG3, E_tupG4, E_par, E_par1, E_app, E_ifOwnS, E_app1, E_app1x, E_app20, E_app2, E_setIx, E_SI1, E_SI2, E_SI3, E_SI4, E_for, E_for1, E_for1x, E_items, E_items1, E_itL, E_itS, E_itT, E_rng1, E_rng11, E_rng2, E_rng21, E_lc, E_lc1, E_lc1x, E_lc2, E_runF, E_runr, E_runn, E_runx, E_runN, E_runNr, E_runH, E_runHr, E_runHn, E_runH2, E_raise1, E_R1, E_raise2, E_R2, E_R22, E_raise0, E_try, E_try1, E_tryr, E_tryx, E_try2, E_try2f, E_beh, E_behr, E_behb, E_behc, E_sl, E_sl1, E_sl2, E_sl3, E_sl3t, E_oN, E_oS, E_oS1, E_ch, E_ch1, E_ch2, E_ch3t, E_ch3f, E_ch4, E_enum, E_enum1, E_zip, E_zip1, E_zip1t, E_add, E_sub, E_neg, E_lt, E_le, E_gt, E_ge, E_eq, E_ne, E_mod, E_trI, E_trB, E_trN, E_trL, E_trT, E_lenL, E_lenT, E_lenS, E_listS, E_intB, E_intI, E_abs, E_listL, E_listT, E_tupleL, E_tupleT, E_dTup0, E_dTup1, E_dTup2, E_dTup3, E_dTup4, E_dTup5, E_dTup6, E_dTup7, E_dTup8, E_dTup9, E_dTup10, E_dTup11, E_dTup12, E_dLst0, E_dLst1, E_dLst2, E_dLst3, E_dLst4, E_dLst5, E_dLst6, E_dLst7, E_dLst8, E_dLst9, E_dLst10, E_dLst11, E_dLst12, E_gcd, E_isNnon, E_notN, E_isB, E_notB, E_ixL, E_ixT, E_at0, E_at1, E_at2, E_at3, E_at4, E_at5, E_isi_int_N, E_isi_int_B, E_isi_int_I, E_isi_int_S, E_isi_int_T, E_isi_int_L, E_isi_int_C, E_isi_bool_N, E_isi_bool_B, E_isi_bool_I, E_isi_bool_S, E_isi_bool_T, E_isi_bool_L, E_isi_bool_C, E_isi_str_N, E_isi_str_B, E_isi_str_I, E_isi_str_S, E_isi_str_T, E_isi_str_L, E_isi_str_C, E_isi_list_N, E_isi_list_B, E_isi_list_I, E_isi_list_S, E_isi_list_T, E_isi_list_L, E_isi_list_C, E_isi_tuple_N, E_isi_tuple_B, E_isi_tuple_I, E_isi_tuple_S, E_isi_tuple_T, E_isi_tuple_L, E_isi_tuple_C, E_isi2_N, E_isi2_B, E_isi2_I, E_isi2_S, E_isi2_T, E_isi2_L, E_isi2_C, E_isN_B, E_notN_B, E_isN_I, E_notN_I, E_isN_S, E_notN_S, E_isN_T, E_notN_T, E_isN_L, E_notN_L, E_isN_C, E_notN_C, E_isa1, E_isa2, E_lk1, E_xf, E_fam, E_mul, E_fdiv, E_ixN, E_decT, E_decF, List.getElem?_cons_zero, List.getElem?_cons_succ, List.set_cons_zero, List.set_cons_succ, List.length_cons, List.length_nil, List.length_map, List.append_nil, List.cons_append, List.nil_append, entry, List.map_cons, List.map_nil, List.replicate_succ, List.replicate_zero, Nat.reduceAdd, Nat.reduceSub, Nat.reduceLT, Nat.reduceLeDiff, Nat.reduceEqDiff, Nat.zero_add, ↓reduceIte, decide_true, decide_false, Bool.not_true, Bool.not_false, eq_self, ne_eq, not_true_eq_false, not_false_eq_true, Int.reduceEq, Int.reduceToNat, Int.toNat_natCast, Int.reduceNe, Int.reduceLT, Int.reduceLE, Int.reduceNeg, Nat.reduceLeDiff, if_true, if_false, decide_not, Bool.true_and, Bool.and_true, Bool.false_and, Bool.and_false, Bool.not_not, reduceCtorEq, ei, q1] <;> rfl)
/-! gcd -/
theorem gcdStop {x y : D} {a : Int} {z z' : Option D} {d : D} {ds : List D} : ∃ ρ', forL (nmG 4) l1__law_gcd (d :: ds) [some x, some y, some (.int a), some (.int 0), z, z'] = .ret (.int a) ρ' := by
  have st : l1__law_gcd [some x, some y, some (.int a), some (.int 0), some d, z'] = .ret (.int a) [some x, some y, some (.int a), some (.int 0), some d, z'] := by
    unfold l1__law_gcd
    (simp (disch := first | omega | assumption | (simp only [List.length_cons, List.length_nil, List.length_map, List.length_append, List.length_set]; omega)) only [E_c, E_var, E_own, E_bin, E_bin1, E_bin1x, E_bin2, E_bin2x, E_opt, E_un, E_un1, E_un1x, E_nil, E_cons, E_cons1, E_cons1x, E_cons2, E_cons2x, E_aF, E_tB, E_fB, E_fBx, E_tT, E_fT, E_fTx, E_selt, E_self, E_if, E_ifx, E_rOk, E_tAnd, E_tOr, E_tNot, E_fNotR, E_fNotRx, E_and, E_and1, E_and1x, E_or, E_or1, E_or1x, E_not, E_not1, E_not1x, E_eIf, E_selT, E_call, E_call1, E_call1x, E_to, E_tox, E_callN, E_callN1, E_toN, E_callH, E_ifOwn, E_callH1, E_callH2, E_toH, E_ixO, E_ixO1, E_ixO2, E_move, E_move1, E_ownA, E_ownA1, E_ownV, E_varV, E_seq, E_then, E_thenr, E_thenx, E_thenb, E_thenc, E_seqN, E_thenN, E_next, E_brk, E_ct, E_expr, E_expr1, E_expr1x, E_set, E_set1, E_set1x, E_ret, E_ret1, E_ret1x, E_retN, E_ifS, E_ifS1, E_ifS1x, E_asg, E_asg1, E_asg1x, E_asg2, E_nm, E_nilG, E_consG, E_obind, E_tupG2, E_tupG3, E_tupG4, E_par, E_par1, E_app, E_ifOwnS, E_app1, E_app1x, E_app20, E_app2, E_setIx, E_SI1, E_SI2, E_SI3, E_SI4, E_for, E_for1, E_for1x, E_items, E_items1, E_itL, E_itS, E_itT, E_rng1, E_rng11, E_rng2, E_rng21, E_lc, E_lc1, E_lc1x, E_lc2, E_runF, E_runr, E_runn, E_runx, E_runN, E_runNr, E_runH, E_runHr, E_runHn, E_runH2, E_raise1, E_R1, E_raise2, E_R2, E_R22, E_raise0, E_try, E_try1, E_tryr, E_tryx, E_try2, E_try2f, E_beh, E_behr, E_behb, E_behc, E_sl, E_sl1, E_sl2, E_sl3, E_sl3t, E_oN, E_oS, E_oS1, E_ch, E_ch1, E_ch2, E_ch3t, E_ch3f, E_ch4, E_enum, E_enum1, E_zip, E_zip1, E_zip1t, E_add, E_sub, E_neg, E_lt, E_le, E_gt, E_ge, E_eq, E_ne, E_mod, E_trI, E_trB, E_trN, E_trL, E_trT, E_lenL, E_lenT, E_lenS, E_listS, E_intB, E_intI, E_abs, E_listL, E_listT, E_tupleL, E_tupleT, E_dTup0, E_dTup1, E_dTup2, E_dTup3, E_dTup4, E_dTup5, E_dTup6, E_dTup7, E_dTup8, E_dTup9, E_dTup10, E_dTup11, E_dTup12, E_dLst0, E_dLst1, E_dLst2, E_dLst3, E_dLst4, E_dLst5, E_dLst6, E_dLst7, E_dLst8, E_dLst9, E_dLst10, E_dLst11, E_dLst12, E_gcd, E_isNnon, E_notN, E_isB, E_notB, E_ixL, E_ixT, E_at0, E_at1, E_at2, E_at3, E_at4, E_at5, E_isi_int_N, E_isi_int_B, E_isi_int_I, E_isi_int_S, E_isi_int_T, E_isi_int_L, E_isi_int_C, E_isi_bool_N, E_isi_bool_B, E_isi_bool_I, E_isi_bool_S, E_isi_bool_T, E_isi_bool_L, E_isi_bool_C, E_isi_str_N, E_isi_str_B, E_isi_str_I, E_isi_str_S, E_isi_str_T, E_isi_str_L, E_isi_str_C, E_isi_list_N, E_isi_list_B, E_isi_list_I, E_isi_list_S, E_isi_list_T, E_isi_list_L, E_isi_list_C, E_isi_tuple_N, E_isi_tuple_B, E_isi_tuple_I, E_isi_tuple_S, E_isi_tuple_T, E_isi_tuple_L, E_isi_tuple_C, E_isi2_N, E_isi2_B, E_isi2_I, E_isi2_S, E_isi2_T, E_isi2_L, E_isi2_C, E_isN_B, E_notN_B, E_isN_I, E_notN_I, E_isN_S, E_notN_S, E_isN_T, E_notN_T, E_isN_L, E_notN_L, E_isN_C, E_notN_C, E_isa1, E_isa2, E_lk1, E_xf, E_fam, E_mul, E_fdiv, E_ixN, E_decT, E_decF, List.getElem?_cons_zero, List.getElem?_cons_succ, List.set_cons_zero, List.set_cons_succ, List.length_cons, List.length_nil, List.length_map, List.append_nil, List.cons_append, List.nil_append, entry, List.map_cons, List.map_nil, List.replicate_succ, List.replicate_zero, Nat.reduceAdd, Nat.reduceSub, Nat.reduceLT, Nat.reduceLeDiff, Nat.reduceEqDiff, Nat.zero_add, ↓reduceIte, decide_true, decide_false, Bool.not_true, Bool.not_false, eq_self, ne_eq, not_true_eq_false, not_false_eq_true, Int.reduceEq, Int.reduceToNat, Int.toNat_natCast, Int.reduceNe, Int.reduceLT, Int.reduceLE, Int.reduceNeg, Nat.reduceLeDiff, if_true, if_false, decide_not, Bool.true_and, Bool.and_true, Bool.false_and, Bool.and_false, Bool.not_not, reduceCtorEq] <;> rfl)
  refine ⟨[some x, some y, some (.int a), some (.int 0), some d, z'], ?_⟩
  show (match l1__law_gcd [some x, some y, some (.int a), some (.int 0), some d, z'] with | .nx ρ2 => forL (nmG 4) l1__law_gcd ds ρ2 | .ct ρ2 => forL (nmG 4) l1__law_gcd ds ρ2 | .brk ρ2 => .nx ρ2 | .ret d ρ2 => .ret d ρ2 | .exc e ρ2 => .exc e ρ2 | .stuck => .stuck) = _
  rw [st]
theorem gcdGo {x y : D} {a b : Int} {z z' : Option D} {d : D} {ds : List D} (hb : b ≠ 0) : forL (nmG 4) l1__law_gcd (d :: ds) [some x, some y, some (.int a), some (.int b), z, z'] = forL (nmG 4) l1__law_gcd ds [some x, some y, some (.int b), some (.int (a.fmod b)), some d, some (.int (a.fmod b))] := by
  have em : dMod (.int a) (.int b) = some (.int (a.fmod b)) := dMod_of hb
  have st : l1__law_gcd [some x, some y, some (.int a), some (.int b), some d, z'] = .nx [some x, some y, some (.int b), some (.int (a.fmod b)), some d, some (.int (a.fmod b))] := by
    unfold l1__law_gcd
    (simp (disch := first | omega | assumption | (simp only [List.length_cons, List.length_nil, List.length_map, List.length_append, List.length_set]; omega)) only [E_c, E_var, E_own, E_bin, E_bin1, E_bin1x, E_bin2, E_bin2x, E_opt, E_un, E_un1, E_un1x, E_nil, E_cons, E_cons1, E_cons1x, E_cons2, E_cons2x, E_aF, E_tB, E_fB, E_fBx, E_tT, E_fT, E_fTx, E_selt, E_self, E_if, E_ifx, E_rOk, E_tAnd, E_tOr, E_tNot, E_fNotR, E_fNotRx, E_and, E_and1, E_and1x, E_or, E_or1, E_or1x, E_not, E_not1, E_not1x, E_eIf, E_selT, E_call, E_call1, E_call1x, E_to, E_tox, E_callN, E_callN1, E_toN, E_callH, E_ifOwn, E_callH1, E_callH2, E_toH, E_ixO, E_ixO1, E_ixO2, E_move, E_move1, E_ownA, E_ownA1, E_ownV, E_varV, E_seq, E_then, E_thenr, E_thenx, E_thenb, E_thenc, E_seqN, E_thenN, E_next, E_brk, E_ct, E_expr, E_expr1, E_expr1x, E_set, E_set1, E_set1x, E_ret, E_ret1, E_ret1x, E_retN, E_ifS, E_ifS1, E_ifS1x, E_asg, E_asg1, E_asg1x, E_asg2, E_nm, E_nilG, E_consG, E_obind, E_tupG2, E_tupG3, E_tupG4, E_par, E_par1, E_app, E_ifOwnS, E_app1, E_app1x, E_app20, E_app2, E_setIx, E_SI1, E_SI2, E_SI3, E_SI4, E_for, E_for1, E_for1x, E_items, E_items1, E_itL, E_itS, E_itT, E_rng1, E_rng11, E_rng2, E_rng21, E_lc, E_lc1, E_lc1x, E_lc2, E_runF, E_runr, E_runn, E_runx, E_runN, E_runNr, E_runH, E_runHr, E_runHn, E_runH2, E_raise1, E_R1, E_raise2, E_R2, E_R22, E_raise0, E_try, E_try1, E_tryr, E_tryx, E_try2, E_try2f, E_beh, E_behr, E_behb, E_behc, E_sl, E_sl1, E_sl2, E_sl3, E_sl3t, E_oN, E_oS, E_oS1, E_ch, E_ch1, E_ch2, E_ch3t, E_ch3f, E_ch4, E_enum, E_enum1, E_zip, E_zip1, E_zip1t, E_add, E_sub, E_neg, E_lt, E_le, E_gt, E_ge, E_eq, E_ne, E_mod, E_trI, E_trB, E_trN, E_trL, E_trT, E_lenL, E_lenT, E_lenS, E_listS, E_intB, E_intI, E_abs, E_listL, E_listT, E_tupleL, E_tupleT, E_dTup0, E_dTup1, E_dTup2, E_dTup3, E_dTup4, E_dTup5, E_dTup6, E_dTup7, E_dTup8, E_dTup9, E_dTup10, E_dTup11, E_dTup12, E_dLst0, E_dLst1, E_dLst2, E_dLst3, E_dLst4, E_dLst5, E_dLst6, E_dLst7, E_dLst8, E_dLst9, E_dLst10, E_dLst11, E_dLst12, E_gcd, E_isNnon, E_notN, E_isB, E_notB, E_ixL, E_ixT, E_at0, E_at1, E_at2, E_at3, E_at4, E_at5, E_isi_int_N, E_isi_int_B, E_isi_int_I, E_isi_int_S, E_isi_int_T, E_isi_int_L, E_isi_int_C, E_isi_bool_N, E_isi_bool_B, E_isi_bool_I, E_isi_bool_S, E_isi_bool_T, E_isi_bool_L, E_isi_bool_C, E_isi_str_N, E_isi_str_B, E_isi_str_I, E_isi_str_S, E_isi_str_T, E_isi_str_L, E_isi_str_C, E_isi_list_N, E_isi_list_B, E_isi_list_I, E_isi_list_S, E_isi_list_T, E_isi_list_L, E_isi_list_C, E_isi_tuple_N, E_isi_tuple_B, E_isi_tuple_I, E_isi_tuple_S, E_isi_tuple_T, E_isi_tuple_L, E_isi_tuple_C, E_isi2_N, E_isi2_B, E_isi2_I, E_isi2_S, E_isi2_T, E_isi2_L, E_isi2_C, E_isN_B, E_notN_B, E_isN_I, E_notN_I, E_isN_S, E_notN_S, E_isN_T, E_notN_T, E_isN_L, E_notN_L, E_isN_C, E_notN_C, E_isa1, E_isa2, E_lk1, E_xf, E_fam, E_mul, E_fdiv, E_ixN, E_decT, E_decF, List.getElem?_cons_zero, List.getElem?_cons_succ, List.set_cons_zero, List.set_cons_succ, List.length_cons, List.length_nil, List.length_map, List.append_nil, List.cons_append, List.nil_append, entry, List.map_cons, List.map_nil, List.replicate_succ, List.replicate_zero, Nat.reduceAdd, Nat.reduceSub, Nat.reduceLT, Nat.reduceLeDiff, Nat.reduceEqDiff, Nat.zero_add, ↓reduceIte, decide_true, decide_false, Bool.not_true, Bool.not_false, eq_self, ne_eq, not_true_eq_false, not_false_eq_true, Int.reduceEq, Int.reduceToNat, Int.toNat_natCast, Int.reduceNe, Int.reduceLT, Int.reduceLE, Int.reduceNeg, Nat.reduceLeDiff, if_true, if_false, decide_not, Bool.true_and, Bool.and_true, Bool.false_and, Bool.and_false, Bool.not_not, reduceCtorEq, em] <;> rfl)
  show (match l1__law_gcd [some x, some y, some (.int a), some (.int b), some d, z'] with | .nx ρ2 => forL (nmG 4) l1__law_gcd ds ρ2 | .ct ρ2 => forL (nmG 4) l1__law_gcd ds ρ2 | .brk ρ2 => .nx ρ2 | .ret d ρ2 => .ret d ρ2 | .exc e ρ2 => .exc e ρ2 | .stuck => .stuck) = _
  rw [st]
theorem gcd_modR (a b : Nat) : Nat.gcd b (a % b) = Nat.gcd a b := by rw [Nat.gcd_comm a b, Nat.gcd_rec b a, Nat.gcd_comm]
theorem fmod_nat (a b : Nat) : (a : Int).fmod b = ((a % b : Nat) : Int) := by
  rw [Int.fmod_eq_emod_of_nonneg _ (by omega)]; rfl
theorem gcdLoop {x y : D} : ∀ (m : Nat) (a b : Nat) (z z' : Option D) (ds : List D), b < 2 ^ m → 2 * m + 1 ≤ ds.length → ∃ ρ', forL (nmG 4) l1__law_gcd ds [some x, some y, some (.int a), some (.int b), z, z'] = .ret (.int (Nat.gcd a b : Nat)) ρ'
  | m, a, b, z, z', [], _, h => by simp at h
  | m, a, 0, z, z', d :: ds, _, _ => by
    rw [Nat.gcd_zero_right]
    exact gcdStop
  | 0, a, b + 1, z, z', d :: ds, h, _ => by omega
  | m + 1, a, b + 1, z, z', [d], h, hl => by simp at hl
  | m + 1, a, b + 1, z, z', d :: d2 :: ds, h, hl => by
    rw [gcdGo (by omega), fmod_nat, ← gcd_modR a (b + 1)]
    generalize hr : a % (b + 1) = r
    cases r with
    | zero =>
      rw [Nat.gcd_zero_right]
      exact gcdStop
    | succ r =>
      have hlt : r + 1 < b + 1 := by rw [← hr]; exact Nat.mod_lt _ (by omega)
      rw [gcdGo (by omega), fmod_nat, ← gcd_modR (b + 1) (r + 1)]
      have h2 : (b + 1) % (r + 1) < 2 ^ m := by
        rw [Nat.pow_succ] at h
        have h3 := Nat.mod_lt (b + 1) (show 0 < r + 1 by omega)
        have h4 : (b + 1) % (r + 1) + (r + 1) ≤ b + 1 := by
          have h5 := Nat.div_add_mod (b + 1) (r + 1)
          have h6 : 1 ≤ (b + 1) / (r + 1) := Nat.div_pos (by omega) (by omega)
          have h7 : (r + 1) * 1 ≤ (r + 1) * ((b + 1) / (r + 1)) := Nat.mul_le_mul_left _ h6
          omega
        omega
      exact gcdLoop m (r + 1) ((b + 1) % (r + 1)) _ _ ds h2 (by simp at hl ⊢; omega)
end Law

set_option Elab.async false
set_option linter.all false
set_option maxRecDepth 100000
set_option maxHeartbeats 2000000
noncomputable section
namespace Law
open PySem L2 Py
theorem abs_nat (a : Int) : (if a < 0 then -a else a) = (a.natAbs : Int) := by split <;> omega
theorem pl_gcd (a b : Int) (hb : Bd 2900 b) : f__law_gcd [.int a, .int b] = .ok (.int (Int.gcd a b)) := by
  obtain ⟨ρ', h⟩ := gcdLoop (x := .int a) (y := .int b) 2900 a.natAbs b.natAbs none none (rngD 0 6000) hb (by unfold rngD; rw [List.length_map, List.length_range]; decide)
  rw [← abs_nat, ← abs_nat] at h
  have hr : (-(2 ^ 62) ≤ (6000 : Int) ∧ (6000 : Int) < 2 ^ 62) := by decide
  unfold f__law_gcd
  have e : (Int.gcd a b : Int) = ((a.natAbs.gcd b.natAbs : Nat) : Int) := rfl
  rw [e]
  unfold m__law_gcd
  (simp (disch := first | omega | assumption | (simp only [List.length_cons, List.length_nil, List.length_map, List.length_append, List.length_set]; omega)) only [E_c, E_var, E_own, E_bin, E_bin1, E_bin1x, E_bin2, E_bin2x, E_opt, E_un, E_un1, E_un1x, E_nil, E_cons, E_cons1, E_cons1x, E_cons2, E_cons2x, E_aF, E_tB, E_fB, E_fBx, E_tT, E_fT, E_fTx, E_selt, E_self, E_if, E_ifx, E_rOk, E_tAnd, E_tOr, E_tNot, E_fNotR, E_fNotRx, E_and, E_and1, E_and1x, E_or, E_or1, E_or1x, E_not, E_not1, E_not1x, E_eIf, E_selT, E_call, E_call1, E_call1x, E_to, E_tox, E_callN, E_callN1, E_toN, E_callH, E_ifOwn, E_callH1, E_callH2, E_toH, E_ixO, E_ixO1, E_ixO2, E_move, E_move1, E_ownA, E_ownA1, E_ownV, E_varV, E_seq, E_then, E_thenr, E_thenx, E_thenb, E_thenc, E_seqN, E_thenN, E_next, E_brk, E_ct, E_expr, E_expr1, E_expr1x, E_set, E_set1, E_set1x, E_ret, E_ret1, E_ret1x, E_retN, E_ifS, E_ifS1, E_ifS1x, E_asg, E_asg1, E_asg1x, E_asg2, E_nm, E_nilG, E_consG, E_obind, E_tupG2, E_tupG3, E_tupG4, E_par, E_par1, E_app, E_ifOwnS, E_app1, E_app1x, E_app20, E_app2, E_setIx, E_SI1, E_SI2, E_SI3, E_SI4, E_for, E_for1, E_for1x, E_items, E_items1, E_itL, E_itS, E_itT, E_rng1, E_rng11, E_rng2, E_rng21, E_lc, E_lc1, E_lc1x, E_lc2, E_runF, E_runr, E_runn, E_runx, E_runN, E_runNr, E_runH, E_runHr, E_runHn, E_runH2, E_raise1, E_R1, E_raise2, E_R2, E_R22, E_raise0, E_try, E_try1, E_tryr, E_tryx, E_try2, E_try2f, E_beh, E_behr, E_behb, E_behc, E_sl, E_sl1, E_sl2, E_sl3, E_sl3t, E_oN, E_oS, E_oS1, E_ch, E_ch1, E_ch2, E_ch3t, E_ch3f, E_ch4, E_enum, E_enum1, E_zip, E_zip1, E_zip1t, E_add, E_sub, E_neg, E_lt, E_le, E_gt, E_ge, E_eq, E_ne, E_mod, E_trI, E_trB, E_trN, E_trL, E_trT, E_lenL, E_lenT, E_lenS, E_listS, E_intB, E_intI, E_abs, E_listL, E_listT, E_tupleL, E_tupleT, E_dTup0, E_dTup1, E_dTup2, E_dTup3, E_dTup4, E_dTup5, E_dTup6, E_dTup7, E_dTup8, E_dTup9, E_dTup10, E_dTup11, E_dTup12, E_dLst0, E_dLst1, E_dLst2, E_dLst3, E_dLst4, E_dLst5, E_dLst6, E_dLst7, E_dLst8, E_dLst9, E_dLst10, E_dLst11, E_dLst12, E_gcd, E_isNnon, E_notN, E_isB, E_notB, E_ixL, E_ixT, E_at0, E_at1, E_at2, E_at3, E_at4, E_at5, E_isi_int_N, E_isi_int_B, E_isi_int_I, E_isi_int_S, E_isi_int_T, E_isi_int_L, E_isi_int_C, E_isi_bool_N, E_isi_bool_B, E_isi_bool_I, E_isi_bool_S, E_isi_bool_T, E_isi_bool_L, E_isi_bool_C, E_isi_str_N, E_isi_str_B, E_isi_str_I, E_isi_str_S, E_isi_str_T, E_isi_str_L, E_isi_str_C, E_isi_list_N, E_isi_list_B, E_isi_list_I, E_isi_list_S, E_isi_list_T, E_isi_list_L, E_isi_list_C, E_isi_tuple_N, E_isi_tuple_B, E_isi_tuple_I, E_isi_tuple_S, E_isi_tuple_T, E_isi_tuple_L, E_isi_tuple_C, E_isi2_N, E_isi2_B, E_isi2_I, E_isi2_S, E_isi2_T, E_isi2_L, E_isi2_C, E_isN_B, E_notN_B, E_isN_I, E_notN_I, E_isN_S, E_notN_S, E_isN_T, E_notN_T, E_isN_L, E_notN_L, E_isN_C, E_notN_C, E_isa1, E_isa2, E_lk1, E_xf, E_fam, E_mul, E_fdiv, E_ixN, E_decT, E_decF, List.getElem?_cons_zero, List.getElem?_cons_succ, List.set_cons_zero, List.set_cons_succ, List.length_cons, List.length_nil, List.length_map, List.append_nil, List.cons_append, List.nil_append, entry, List.map_cons, List.map_nil, List.replicate_succ, List.replicate_zero, Nat.reduceAdd, Nat.reduceSub, Nat.reduceLT, Nat.reduceLeDiff, Nat.reduceEqDiff, Nat.zero_add, ↓reduceIte, decide_true, decide_false, Bool.not_true, Bool.not_false, eq_self, ne_eq, not_true_eq_false, not_false_eq_true, Int.reduceEq, Int.reduceToNat, Int.toNat_natCast, Int.reduceNe, Int.reduceLT, Int.reduceLE, Int.reduceNeg, Nat.reduceLeDiff, if_true, if_false, decide_not, Bool.true_and, Bool.and_true, Bool.false_and, Bool.and_false, Bool.not_not, reduceCtorEq, hr, h] <;> rfl)
/-- the sign's greatest common divisor, lowest terms -/
def sg (t b : Int) : Int := if b < 0 then -(Int.gcd t b : Int) else (Int.gcd t b : Int)
def Lw (t b : Int) : D := .tup [.int (t.fdiv (sg t b)), .int (b.fdiv (sg t b))]
theorem gcd_pos {t b : Int} (hb : b ≠ 0) : 0 < (Int.gcd t b : Int) := by
  have := Int.gcd_pos_of_ne_zero_right t hb
  omega
theorem sg_ne {t b : Int} (hb : b ≠ 0) : sg t b ≠ 0 := by
  have := gcd_pos (t := t) hb
  unfold sg; split <;> omega
theorem gcd_le {t b : Int} (hb : b ≠ 0) : (Int.gcd t b : Int) ≤ b.natAbs := by
  have := Nat.le_of_dvd (by omega) (Nat.gcd_dvd_right t.natAbs b.natAbs)
  have e : Int.gcd t b = Nat.gcd t.natAbs b.natAbs := rfl
  omega
theorem sg_bd {k : Nat} {t b : Int} (hb : b ≠ 0) (h : Bd k b) : Bd k (sg t b) := by
  have h1 := gcd_le (t := t) hb
  have h2 := gcd_pos (t := t) hb
  have h3 : (sg t b).natAbs ≤ b.natAbs := by unfold sg; split <;> omega
  exact Nat.lt_of_le_of_lt h3 h
theorem pl_low (t b : Int) (hb : b ≠ 0) (h : Bd 2900 b) : f_lowest_terms [.int t, .int b] = .ok (Lw t b) := by
  have g := sg_bd (t := t) hb h
  have n := sg_ne (t := t) hb
  have eg : dGcd [.int t, .int b] = some (.int (Int.gcd t b)) := rfl
  unfold f_lowest_terms Lw
  by_cases hs : b < 0
  · have es : sg t b = -(Int.gcd t b : Int) := if_pos hs
    rw [es] at g n ⊢
    have e1 : dFdiv (.int t) (.int (-(Int.gcd t b : Int))) = some (.int (t.fdiv (-(Int.gcd t b : Int)))) := dFdiv_of g (by decide) n
    have e2 : dFdiv (.int b) (.int (-(Int.gcd t b : Int))) = some (.int (b.fdiv (-(Int.gcd t b : Int)))) := dFdiv_of g (by decide) n
    unfold m_lowest_terms
    (simp (disch := first | omega | assumption | (simp only [List.length_cons, List.length_nil, List.length_map, List.length_append, List.length_set]; omega)) only [E_c, E_var, E_own, E_bin, E_bin1, E_bin1x, E_bin2, E_bin2x, E_opt, E_un, E_un1, E_un1x, E_nil, E_cons, E_cons1, E_cons1x, E_cons2, E_cons2x, E_aF, E_tB, E_fB, E_fBx, E_tT, E_fT, E_fTx, E_selt, E_self, E_if, E_ifx, E_rOk, E_tAnd, E_tOr, E_tNot, E_fNotR, E_fNotRx, E_and, E_and1, E_and1x, E_or, E_or1, E_or1x, E_not, E_not1, E_not1x, E_eIf, E_selT, E_call, E_call1, E_call1x, E_to, E_tox, E_callN, E_callN1, E_toN, E_callH, E_ifOwn, E_callH1, E_callH2, E_toH, E_ixO, E_ixO1, E_ixO2, E_move, E_move1, E_ownA, E_ownA1, E_ownV, E_varV, E_seq, E_then, E_thenr, E_thenx, E_thenb, E_thenc, E_seqN, E_thenN, E_next, E_brk, E_ct, E_expr, E_expr1, E_expr1x, E_set, E_set1, E_set1x, E_ret, E_ret1, E_ret1x, E_retN, E_ifS, E_ifS1, E_ifS1x, E_asg, E_asg1, E_asg1x, E_asg2, E_nm, E_nilG, E_consG, E_obind, E_tupG2, E_tupG3, E_tupG4, E_par, E_par1, E_app, E_ifOwnS, E_app1, E_app1x, E_app20, E_app2, E_setIx, E_SI1, E_SI2, E_SI3, E_SI4, E_for, E_for1, E_for1x, E_items, E_items1, E_itL, E_itS, E_itT, E_rng1, E_rng11, E_rng2, E_rng21, E_lc, E_lc1, E_lc1x, E_lc2, E_runF, E_runr, E_runn, E_runx, E_runN, E_runNr, E_runH, E_runHr, E_runHn, E_runH2, E_raise1, E_R1, E_raise2, E_R2, E_R22, E_raise0, E_try, E_try1, E_tryr, E_tryx, E_try2, E_try2f, E_beh, E_behr, E_behb, E_behc, E_sl, E_sl1, E_sl2, E_sl3, E_sl3t, E_oN, E_oS, E_oS1, E_ch, E_ch1, E_ch2, E_ch3t, E_ch3f, E_ch4, E_enum, E_enum1, E_zip, E_zip1, E_zip1t, E_add, E_sub, E_neg, E_lt, E_le, E_gt, E_ge, E_eq, E_ne, E_mod, E_trI, E_trB, E_trN, E_trL, E_trT, E_lenL, E_lenT, E_lenS, E_listS, E_intB, E_intI, E_abs, E_listL, E_listT, E_tupleL, E_tupleT, E_dTup0, E_dTup1, E_dTup2, E_dTup3, E_dTup4, E_dTup5, E_dTup6, E_dTup7, E_dTup8, E_dTup9, E_dTup10, E_dTup11, E_dTup12, E_dLst0, E_dLst1, E_dLst2, E_dLst3, E_dLst4, E_dLst5, E_dLst6, E_dLst7, E_dLst8, E_dLst9, E_dLst10, E_dLst11, E_dLst12, E_gcd, E_isNnon, E_notN, E_isB, E_notB, E_ixL, E_ixT, E_at0, E_at1, E_at2, E_at3, E_at4, E_at5, E_isi_int_N, E_isi_int_B, E_isi_int_I, E_isi_int_S, E_isi_int_T, E_isi_int_L, E_isi_int_C, E_isi_bool_N, E_isi_bool_B, E_isi_bool_I, E_isi_bool_S, E_isi_bool_T, E_isi_bool_L, E_isi_bool_C, E_isi_str_N, E_isi_str_B, E_isi_str_I, E_isi_str_S, E_isi_str_T, E_isi_str_L, E_isi_str_C, E_isi_list_N, E_isi_list_B, E_isi_list_I, E_isi_list_S, E_isi_list_T, E_isi_list_L, E_isi_list_C, E_isi_tuple_N, E_isi_tuple_B, E_isi_tuple_I, E_isi_tuple_S, E_isi_tuple_T, E_isi_tuple_L, E_isi_tuple_C, E_isi2_N, E_isi2_B, E_isi2_I, E_isi2_S, E_isi2_T, E_isi2_L, E_isi2_C, E_isN_B, E_notN_B, E_isN_I, E_notN_I, E_isN_S, E_notN_S, E_isN_T, E_notN_T, E_isN_L, E_notN_L, E_isN_C, E_notN_C, E_isa1, E_isa2, E_lk1, E_xf, E_fam, E_mul, E_fdiv, E_ixN, E_decT, E_decF, List.getElem?_cons_zero, List.getElem?_cons_succ, List.set_cons_zero, List.set_cons_succ, List.length_cons, List.length_nil, List.length_map, List.append_nil, List.cons_append, List.nil_append, entry, List.map_cons, List.map_nil, List.replicate_succ, List.replicate_zero, Nat.reduceAdd, Nat.reduceSub, Nat.reduceLT, Nat.reduceLeDiff, Nat.reduceEqDiff, Nat.zero_add, ↓reduceIte, decide_true, decide_false, Bool.not_true, Bool.not_false, eq_self, ne_eq, not_true_eq_false, not_false_eq_true, Int.reduceEq, Int.reduceToNat, Int.toNat_natCast, Int.reduceNe, Int.reduceLT, Int.reduceLE, Int.reduceNeg, Nat.reduceLeDiff, if_true, if_false, decide_not, Bool.true_and, Bool.and_true, Bool.false_and, Bool.and_false, Bool.not_not, reduceCtorEq, eg, e1, e2] <;> rfl)
  · have es : sg t b = (Int.gcd t b : Int) := if_neg hs
    rw [es] at g n ⊢
    have e1 : dFdiv (.int t) (.int ((Int.gcd t b : Int))) = some (.int (t.fdiv ((Int.gcd t b : Int)))) := dFdiv_of g (by decide) n
    have e2 : dFdiv (.int b) (.int ((Int.gcd t b : Int))) = some (.int (b.fdiv ((Int.gcd t b : Int)))) := dFdiv_of g (by decide) n
    unfold m_lowest_terms
    (simp (disch := first | omega | assumption | (simp only [List.length_cons, List.length_nil, List.length_map, List.length_append, List.length_set]; omega)) only [E_c, E_var, E_own, E_bin, E_bin1, E_bin1x, E_bin2, E_bin2x, E_opt, E_un, E_un1, E_un1x, E_nil, E_cons, E_cons1, E_cons1x, E_cons2, E_cons2x, E_aF, E_tB, E_fB, E_fBx, E_tT, E_fT, E_fTx, E_selt, E_self, E_if, E_ifx, E_rOk, E_tAnd, E_tOr, E_tNot, E_fNotR, E_fNotRx, E_and, E_and1, E_and1x, E_or, E_or1, E_or1x, E_not, E_not1, E_not1x, E_eIf, E_selT, E_call, E_call1, E_call1x, E_to, E_tox, E_callN, E_callN1, E_toN, E_callH, E_ifOwn, E_callH1, E_callH2, E_toH, E_ixO, E_ixO1, E_ixO2, E_move, E_move1, E_ownA, E_ownA1, E_ownV, E_varV, E_seq, E_then, E_thenr, E_thenx, E_thenb, E_thenc, E_seqN, E_thenN, E_next, E_brk, E_ct, E_expr, E_expr1, E_expr1x, E_set, E_set1, E_set1x, E_ret, E_ret1, E_ret1x, E_retN, E_ifS, E_ifS1, E_ifS1x, E_asg, E_asg1, E_asg1x, E_asg2, E_nm, E_nilG, E_consG, E_obind, E_tupG2, E_tupG3, E_tupG4, E_par, E_par1, E_app, E_ifOwnS, E_app1, E_app1x, E_app20, E_app2, E_setIx, E_SI1, E_SI2, E_SI3, E_SI4, E_for, E_for1, E_for1x, E_items, E_items1, E_itL, E_itS, E_itT, E_rng1, E_rng11, E_rng2, E_rng21, E_lc, E_lc1, E_lc1x, E_lc2, E_runF, E_runr, E_runn, E_runx, E_runN, E_runNr, E_runH, E_runHr, E_runHn, E_runH2, E_raise1, E_R1, E_raise2, E_R2, E_R22, E_raise0, E_try, E_try1, E_tryr, E_tryx, E_try2, E_try2f, E_beh, E_behr, E_behb, E_behc, E_sl, E_sl1, E_sl2, E_sl3, E_sl3t, E_oN, E_oS, E_oS1, E_ch, E_ch1, E_ch2, E_ch3t, E_ch3f, E_ch4, E_enum, E_enum1, E_zip, E_zip1, E_zip1t, E_add, E_sub, E_neg, E_lt, E_le, E_gt, E_ge, E_eq, E_ne, E_mod, E_trI, E_trB, E_trN, E_trL, E_trT, E_lenL, E_lenT, E_lenS, E_listS, E_intB, E_intI, E_abs, E_listL, E_listT, E_tupleL, E_tupleT, E_dTup0, E_dTup1, E_dTup2, E_dTup3, E_dTup4, E_dTup5, E_dTup6, E_dTup7, E_dTup8, E_dTup9, E_dTup10, E_dTup11, E_dTup12, E_dLst0, E_dLst1, E_dLst2, E_dLst3, E_dLst4, E_dLst5, E_dLst6, E_dLst7, E_dLst8, E_dLst9, E_dLst10, E_dLst11, E_dLst12, E_gcd, E_isNnon, E_notN, E_isB, E_notB, E_ixL, E_ixT, E_at0, E_at1, E_at2, E_at3, E_at4, E_at5, E_isi_int_N, E_isi_int_B, E_isi_int_I, E_isi_int_S, E_isi_int_T, E_isi_int_L, E_isi_int_C, E_isi_bool_N, E_isi_bool_B, E_isi_bool_I, E_isi_bool_S, E_isi_bool_T, E_isi_bool_L, E_isi_bool_C, E_isi_str_N, E_isi_str_B, E_isi_str_I, E_isi_str_S, E_isi_str_T, E_isi_str_L, E_isi_str_C, E_isi_list_N, E_isi_list_B, E_isi_list_I, E_isi_list_S, E_isi_list_T, E_isi_list_L, E_isi_list_C, E_isi_tuple_N, E_isi_tuple_B, E_isi_tuple_I, E_isi_tuple_S, E_isi_tuple_T, E_isi_tuple_L, E_isi_tuple_C, E_isi2_N, E_isi2_B, E_isi2_I, E_isi2_S, E_isi2_T, E_isi2_L, E_isi2_C, E_isN_B, E_notN_B, E_isN_I, E_notN_I, E_isN_S, E_notN_S, E_isN_T, E_notN_T, E_isN_L, E_notN_L, E_isN_C, E_notN_C, E_isa1, E_isa2, E_lk1, E_xf, E_fam, E_mul, E_fdiv, E_ixN, E_decT, E_decF, List.getElem?_cons_zero, List.getElem?_cons_succ, List.set_cons_zero, List.set_cons_succ, List.length_cons, List.length_nil, List.length_map, List.append_nil, List.cons_append, List.nil_append, entry, List.map_cons, List.map_nil, List.replicate_succ, List.replicate_zero, Nat.reduceAdd, Nat.reduceSub, Nat.reduceLT, Nat.reduceLeDiff, Nat.reduceEqDiff, Nat.zero_add, ↓reduceIte, decide_true, decide_false, Bool.not_true, Bool.not_false, eq_self, ne_eq, not_true_eq_false, not_false_eq_true, Int.reduceEq, Int.reduceToNat, Int.toNat_natCast, Int.reduceNe, Int.reduceLT, Int.reduceLE, Int.reduceNeg, Nat.reduceLeDiff, if_true, if_false, decide_not, Bool.true_and, Bool.and_true, Bool.false_and, Bool.and_false, Bool.not_not, reduceCtorEq, eg, e1, e2] <;> rfl)
theorem pl_ratio (t b : Int) (hb : b ≠ 0) (h : Bd 2900 b) : f__law_ratio [.int t, .int b] = .ok (Lw t b) := by
  have g := sg_bd (t := t) hb h
  have n := sg_ne (t := t) hb
  have eg := pl_gcd t b h
  unfold f__law_ratio Lw
  by_cases hs : b < 0
  · have es : sg t b = -(Int.gcd t b : Int) := if_pos hs
    rw [es] at g n ⊢
    have e1 : dFdiv (.int t) (.int (-(Int.gcd t b : Int))) = some (.int (t.fdiv (-(Int.gcd t b : Int)))) := dFdiv_of g (by decide) n
    have e2 : dFdiv (.int b) (.int (-(Int.gcd t b : Int))) = some (.int (b.fdiv (-(Int.gcd t b : Int)))) := dFdiv_of g (by decide) n
    unfold m__law_ratio
    (simp (disch := first | omega | assumption | (simp only [List.length_cons, List.length_nil, List.length_map, List.length_append, List.length_set]; omega)) only [E_c, E_var, E_own, E_bin, E_bin1, E_bin1x, E_bin2, E_bin2x, E_opt, E_un, E_un1, E_un1x, E_nil, E_cons, E_cons1, E_cons1x, E_cons2, E_cons2x, E_aF, E_tB, E_fB, E_fBx, E_tT, E_fT, E_fTx, E_selt, E_self, E_if, E_ifx, E_rOk, E_tAnd, E_tOr, E_tNot, E_fNotR, E_fNotRx, E_and, E_and1, E_and1x, E_or, E_or1, E_or1x, E_not, E_not1, E_not1x, E_eIf, E_selT, E_call, E_call1, E_call1x, E_to, E_tox, E_callN, E_callN1, E_toN, E_callH, E_ifOwn, E_callH1, E_callH2, E_toH, E_ixO, E_ixO1, E_ixO2, E_move, E_move1, E_ownA, E_ownA1, E_ownV, E_varV, E_seq, E_then, E_thenr, E_thenx, E_thenb, E_thenc, E_seqN, E_thenN, E_next, E_brk, E_ct, E_expr, E_expr1, E_expr1x, E_set, E_set1, E_set1x, E_ret, E_ret1, E_ret1x, E_retN, E_ifS, E_ifS1, E_ifS1x, E_asg, E_asg1, E_asg1x, E_asg2, E_nm, E_nilG, E_consG, E_obind, E_tupG2, E_tupG3, E_tupG4, E_par, E_par1, E_app, E_ifOwnS, E_app1, E_app1x, E_app20, E_app2, E_setIx, E_SI1, E_SI2, E_SI3, E_SI4, E_for, E_for1, E_for1x, E_items, E_items1, E_itL, E_itS, E_itT, E_rng1, E_rng11, E_rng2, E_rng21, E_lc, E_lc1, E_lc1x, E_lc2, E_runF, E_runr, E_runn, E_runx, E_runN, E_runNr, E_runH, E_runHr, E_runHn, E_runH2, E_raise1, E_R1, E_raise2, E_R2, E_R22, E_raise0, E_try, E_try1, E_tryr, E_tryx, E_try2, E_try2f, E_beh, E_behr, E_behb, E_behc, E_sl, E_sl1, E_sl2, E_sl3, E_sl3t, E_oN, E_oS, E_oS1, E_ch, E_ch1, E_ch2, E_ch3t, E_ch3f, E_ch4, E_enum, E_enum1, E_zip, E_zip1, E_zip1t, E_add, E_sub, E_neg, E_lt, E_le, E_gt, E_ge, E_eq, E_ne, E_mod, E_trI, E_trB, E_trN, E_trL, E_trT, E_lenL, E_lenT, E_lenS, E_listS, E_intB, E_intI, E_abs, E_listL, E_listT, E_tupleL, E_tupleT, E_dTup0, E_dTup1, E_dTup2, E_dTup3, E_dTup4, E_dTup5, E_dTup6, E_dTup7, E_dTup8, E_dTup9, E_dTup10, E_dTup11, E_dTup12, E_dLst0, E_dLst1, E_dLst2, E_dLst3, E_dLst4, E_dLst5, E_dLst6, E_dLst7, E_dLst8, E_dLst9, E_dLst10, E_dLst11, E_dLst12, E_gcd, E_isNnon, E_notN, E_isB, E_notB, E_ixL, E_ixT, E_at0, E_at1, E_at2, E_at3, E_at4, E_at5, E_isi_int_N, E_isi_int_B, E_isi_int_I, E_isi_int_S, E_isi_int_T, E_isi_int_L, E_isi_int_C, E_isi_bool_N, E_isi_bool_B, E_isi_bool_I, E_isi_bool_S, E_isi_bool_T, E_isi_bool_L, E_isi_bool_C, E_isi_str_N, E_isi_str_B, E_isi_str_I, E_isi_str_S, E_isi_str_T, E_isi_str_L, E_isi_str_C, E_isi_list_N, E_isi_list_B, E_isi_list_I, E_isi_list_S, E_isi_list_T, E_isi_list_L, E_isi_list_C, E_isi_tuple_N, E_isi_tuple_B, E_isi_tuple_I, E_isi_tuple_S, E_isi_tuple_T, E_isi_tuple_L, E_isi_tuple_C, E_isi2_N, E_isi2_B, E_isi2_I, E_isi2_S, E_isi2_T, E_isi2_L, E_isi2_C, E_isN_B, E_notN_B, E_isN_I, E_notN_I, E_isN_S, E_notN_S, E_isN_T, E_notN_T, E_isN_L, E_notN_L, E_isN_C, E_notN_C, E_isa1, E_isa2, E_lk1, E_xf, E_fam, E_mul, E_fdiv, E_ixN, E_decT, E_decF, List.getElem?_cons_zero, List.getElem?_cons_succ, List.set_cons_zero, List.set_cons_succ, List.length_cons, List.length_nil, List.length_map, List.append_nil, List.cons_append, List.nil_append, entry, List.map_cons, List.map_nil, List.replicate_succ, List.replicate_zero, Nat.reduceAdd, Nat.reduceSub, Nat.reduceLT, Nat.reduceLeDiff, Nat.reduceEqDiff, Nat.zero_add, ↓reduceIte, decide_true, decide_false, Bool.not_true, Bool.not_false, eq_self, ne_eq, not_true_eq_false, not_false_eq_true, Int.reduceEq, Int.reduceToNat, Int.toNat_natCast, Int.reduceNe, Int.reduceLT, Int.reduceLE, Int.reduceNeg, Nat.reduceLeDiff, if_true, if_false, decide_not, Bool.true_and, Bool.and_true, Bool.false_and, Bool.and_false, Bool.not_not, reduceCtorEq, eg, e1, e2] <;> rfl)
  · have es : sg t b = (Int.gcd t b : Int) := if_neg hs
    rw [es] at g n ⊢
    have e1 : dFdiv (.int t) (.int ((Int.gcd t b : Int))) = some (.int (t.fdiv ((Int.gcd t b : Int)))) := dFdiv_of g (by decide) n
    have e2 : dFdiv (.int b) (.int ((Int.gcd t b : Int))) = some (.int (b.fdiv ((Int.gcd t b : Int)))) := dFdiv_of g (by decide) n
    unfold m__law_ratio
    (simp (disch := first | omega | assumption | (simp only [List.length_cons, List.length_nil, List.length_map, List.length_append, List.length_set]; omega)) only [E_c, E_var, E_own, E_bin, E_bin1, E_bin1x, E_bin2, E_bin2x, E_opt, E_un, E_un1, E_un1x, E_nil, E_cons, E_cons1, E_cons1x, E_cons2, E_cons2x, E_aF, E_tB, E_fB, E_fBx, E_tT, E_fT, E_fTx, E_selt, E_self, E_if, E_ifx, E_rOk, E_tAnd, E_tOr, E_tNot, E_fNotR, E_fNotRx, E_and, E_and1, E_and1x, E_or, E_or1, E_or1x, E_not, E_not1, E_not1x, E_eIf, E_selT, E_call, E_call1, E_call1x, E_to, E_tox, E_callN, E_callN1, E_toN, E_callH, E_ifOwn, E_callH1, E_callH2, E_toH, E_ixO, E_ixO1, E_ixO2, E_move, E_move1, E_ownA, E_ownA1, E_ownV, E_varV, E_seq, E_then, E_thenr, E_thenx, E_thenb, E_thenc, E_seqN, E_thenN, E_next, E_brk, E_ct, E_expr, E_expr1, E_expr1x, E_set, E_set1, E_set1x, E_ret, E_ret1, E_ret1x, E_retN, E_ifS, E_ifS1, E_ifS1x, E_asg, E_asg1, E_asg1x, E_asg2, E_nm, E_nilG, E_consG, E_obind, E_tupG2, E_tupG3, E_tupG4, E_par, E_par1, E_app, E_ifOwnS, E_app1, E_app1x, E_app20, E_app2, E_setIx, E_SI1, E_SI2, E_SI3, E_SI4, E_for, E_for1, E_for1x, E_items, E_items1, E_itL, E_itS, E_itT, E_rng1, E_rng11, E_rng2, E_rng21, E_lc, E_lc1, E_lc1x, E_lc2, E_runF, E_runr, E_runn, E_runx, E_runN, E_runNr, E_runH, E_runHr, E_runHn, E_runH2, E_raise1, E_R1, E_raise2, E_R2, E_R22, E_raise0, E_try, E_try1, E_tryr, E_tryx, E_try2, E_try2f, E_beh, E_behr, E_behb, E_behc, E_sl, E_sl1, E_sl2, E_sl3, E_sl3t, E_oN, E_oS, E_oS1, E_ch, E_ch1, E_ch2, E_ch3t, E_ch3f, E_ch4, E_enum, E_enum1, E_zip, E_zip1, E_zip1t, E_add, E_sub, E_neg, E_lt, E_le, E_gt, E_ge, E_eq, E_ne, E_mod, E_trI, E_trB, E_trN, E_trL, E_trT, E_lenL, E_lenT, E_lenS, E_listS, E_intB, E_intI, E_abs, E_listL, E_listT, E_tupleL, E_tupleT, E_dTup0, E_dTup1, E_dTup2, E_dTup3, E_dTup4, E_dTup5, E_dTup6, E_dTup7, E_dTup8, E_dTup9, E_dTup10, E_dTup11, E_dTup12, E_dLst0, E_dLst1, E_dLst2, E_dLst3, E_dLst4, E_dLst5, E_dLst6, E_dLst7, E_dLst8, E_dLst9, E_dLst10, E_dLst11, E_dLst12, E_gcd, E_isNnon, E_notN, E_isB, E_notB, E_ixL, E_ixT, E_at0, E_at1, E_at2, E_at3, E_at4, E_at5, E_isi_int_N, E_isi_int_B, E_isi_int_I, E_isi_int_S, E_isi_int_T, E_isi_int_L, E_isi_int_C, E_isi_bool_N, E_isi_bool_B, E_isi_bool_I, E_isi_bool_S, E_isi_bool_T, E_isi_bool_L, E_isi_bool_C, E_isi_str_N, E_isi_str_B, E_isi_str_I, E_isi_str_S, E_isi_str_T, E_isi_str_L, E_isi_str_C, E_isi_list_N, E_isi_list_B, E_isi_list_I, E_isi_list_S, E_isi_list_T, E_isi_list_L, E_isi_list_C, E_isi_tuple_N, E_isi_tuple_B, E_isi_tuple_I, E_isi_tuple_S, E_isi_tuple_T, E_isi_tuple_L, E_isi_tuple_C, E_isi2_N, E_isi2_B, E_isi2_I, E_isi2_S, E_isi2_T, E_isi2_L, E_isi2_C, E_isN_B, E_notN_B, E_isN_I, E_notN_I, E_isN_S, E_notN_S, E_isN_T, E_notN_T, E_isN_L, E_notN_L, E_isN_C, E_notN_C, E_isa1, E_isa2, E_lk1, E_xf, E_fam, E_mul, E_fdiv, E_ixN, E_decT, E_decF, List.getElem?_cons_zero, List.getElem?_cons_succ, List.set_cons_zero, List.set_cons_succ, List.length_cons, List.length_nil, List.length_map, List.append_nil, List.cons_append, List.nil_append, entry, List.map_cons, List.map_nil, List.replicate_succ, List.replicate_zero, Nat.reduceAdd, Nat.reduceSub, Nat.reduceLT, Nat.reduceLeDiff, Nat.reduceEqDiff, Nat.zero_add, ↓reduceIte, decide_true, decide_false, Bool.not_true, Bool.not_false, eq_self, ne_eq, not_true_eq_false, not_false_eq_true, Int.reduceEq, Int.reduceToNat, Int.toNat_natCast, Int.reduceNe, Int.reduceLT, Int.reduceLE, Int.reduceNeg, Nat.reduceLeDiff, if_true, if_false, decide_not, Bool.true_and, Bool.and_true, Bool.false_and, Bool.and_false, Bool.not_not, reduceCtorEq, eg, e1, e2] <;> rfl)
/-- what lowest terms are: a positive bottom, no common divisor, bounds -/
def IsR (d : D) (k : Nat) (n b : Int) : Prop := d = .tup [.int n, .int b] ∧ 1 ≤ b ∧ Int.gcd n b = 1 ∧ Bd k n ∧ Bd k b
theorem dvd_fdiv {t g : Int} (h : g ∣ t) : g * t.fdiv g = t := by
  rw [Int.fdiv_eq_ediv_of_dvd h]; exact Int.mul_ediv_cancel' h
theorem sg_dvd_t (t b : Int) : sg t b ∣ t := by
  have h := Int.gcd_dvd_left (a := t) (b := b)
  unfold sg; split
  · exact Int.neg_dvd.mpr h
  · exact h
theorem sg_dvd_b (t b : Int) : sg t b ∣ b := by
  have h := Int.gcd_dvd_right (a := t) (b := b)
  unfold sg; split
  · exact Int.neg_dvd.mpr h
  · exact h
theorem lw_isR {t b : Int} {k : Nat} (hb : b ≠ 0) (ht : Bd k t) (hk : Bd k b) : ∃ n d, IsR (Lw t b) k n d := by
  have g0 := gcd_pos (t := t) hb
  have ne := sg_ne (t := t) hb
  have e1 := dvd_fdiv (sg_dvd_t t b)
  have e2 := dvd_fdiv (sg_dvd_b t b)
  refine ⟨_, _, rfl, ?_, ?_, ?_, ?_⟩
  · generalize hq : b.fdiv (sg t b) = q at *
    generalize hs : sg t b = s at *
    have hpos : 0 < s * b := by
      unfold sg at hs
      by_cases h : b < 0
      · rw [if_pos h] at hs
        rw [← hs]
        exact Int.mul_pos_of_neg_of_neg (by omega) h
      · rw [if_neg h] at hs
        rw [← hs]
        exact Int.mul_pos (by omega) (by omega)
    rcases Int.lt_or_le 0 q with h | h
    · omega
    · exfalso
      have h1 : s * b = s * s * q := by rw [← e2, Int.mul_assoc]
      have h2 : 0 ≤ s * s := by
        rcases Int.le_total 0 s with h | h
        · exact Int.mul_nonneg h h
        · exact Int.mul_nonneg_of_nonpos_of_nonpos h h
      have h3 : s * s * q ≤ 0 := Int.mul_nonpos_of_nonneg_of_nonpos h2 h
      omega
  · have h1 : Int.gcd (sg t b * t.fdiv (sg t b)) (sg t b * b.fdiv (sg t b)) = (sg t b).natAbs * Int.gcd (t.fdiv (sg t b)) (b.fdiv (sg t b)) := Int.gcd_mul_left ..
    rw [e1, e2] at h1
    have h2 : (sg t b).natAbs = Int.gcd t b := by unfold sg; split <;> omega
    rw [h2] at h1
    have h3 : 0 < Int.gcd t b := by omega
    exact Nat.eq_of_mul_eq_mul_left h3 (by omega)
  · have h1 : (t.fdiv (sg t b)).natAbs ≤ t.natAbs := by
      have h2 : t.natAbs = (sg t b).natAbs * (t.fdiv (sg t b)).natAbs := by rw [← Int.natAbs_mul, e1]
      have h3 : 1 ≤ (sg t b).natAbs := by omega
      rw [h2]
      exact Nat.le_mul_of_pos_left _ h3
    exact Nat.lt_of_le_of_lt h1 ht
  · have h1 : (b.fdiv (sg t b)).natAbs ≤ b.natAbs := by
      have h2 : b.natAbs = (sg t b).natAbs * (b.fdiv (sg t b)).natAbs := by rw [← Int.natAbs_mul, e2]
      have h3 : 1 ≤ (sg t b).natAbs := by omega
      rw [h2]
      exact Nat.le_mul_of_pos_left _ h3
    exact Nat.lt_of_le_of_lt h1 hk
end Law

set_option Elab.async false
set_option linter.all false
set_option maxRecDepth 100000
set_option maxHeartbeats 2000000
noncomputable section
namespace Law
open PySem L2 Py
abbrev R2 (n d : Int) : D := .tup [.int n, .int d]
theorem dEq_tup2 (a b c d : Int) : dEq (R2 a b) (R2 c d) = some (.bl (decide (a = c) && decide (b = d))) := by
  have e : eqvD (R2 a b) (R2 c d) = (decide (a = c) && decide (b = d)) := by
    unfold eqvD R2
    simp [toPy, toPys, PyData.eqv, PyData.eqvAll]
    rfl
  unfold dEq
  rw [e]
  rfl
theorem dNe_tup2 (a b c d : Int) : dNe (R2 a b) (R2 c d) = some (.bl (!(decide (a = c) && decide (b = d)))) := by
  have e : eqvD (R2 a b) (R2 c d) = (decide (a = c) && decide (b = d)) := by
    unfold eqvD R2
    simp [toPy, toPys, PyData.eqv, PyData.eqvAll]
    rfl
  unfold dNe
  rw [e]
  rfl
theorem mul14 {x y : Int} (h : Bd 1400 x) (g : Bd 1400 y) : dMul (.int x) (.int y) = some (.int (x * y)) := dMul_of h g (by decide)
section
variable {a b c d : Int}
theorem pl_add (ha : Bd 1400 a) (hb : Bd 1400 b) (hc : Bd 1400 c) (hd : Bd 1400 d) (b0 : b ≠ 0) (d0 : d ≠ 0) : f_add_ratios [R2 a b, R2 c d] = .ok (Lw (a * d + c * b) (b * d)) := by
  have e := pl_low (a * d + c * b) (b * d) (Int.mul_ne_zero b0 d0) ((hb.mul hd).mono (by decide))
  unfold f_add_ratios m_add_ratios
  (simp (disch := first | omega | assumption | (simp only [List.length_cons, List.length_nil, List.length_map, List.length_append, List.length_set]; omega)) only [E_c, E_var, E_own, E_bin, E_bin1, E_bin1x, E_bin2, E_bin2x, E_opt, E_un, E_un1, E_un1x, E_nil, E_cons, E_cons1, E_cons1x, E_cons2, E_cons2x, E_aF, E_tB, E_fB, E_fBx, E_tT, E_fT, E_fTx, E_selt, E_self, E_if, E_ifx, E_rOk, E_tAnd, E_tOr, E_tNot, E_fNotR, E_fNotRx, E_and, E_and1, E_and1x, E_or, E_or1, E_or1x, E_not, E_not1, E_not1x, E_eIf, E_selT, E_call, E_call1, E_call1x, E_to, E_tox, E_callN, E_callN1, E_toN, E_callH, E_ifOwn, E_callH1, E_callH2, E_toH, E_ixO, E_ixO1, E_ixO2, E_move, E_move1, E_ownA, E_ownA1, E_ownV, E_varV, E_seq, E_then, E_thenr, E_thenx, E_thenb, E_thenc, E_seqN, E_thenN, E_next, E_brk, E_ct, E_expr, E_expr1, E_expr1x, E_set, E_set1, E_set1x, E_ret, E_ret1, E_ret1x, E_retN, E_ifS, E_ifS1, E_ifS1x, E_asg, E_asg1, E_asg1x, E_asg2, E_nm, E_nilG, E_consG, E_obind, E_tupG2, E_tupG3, E_tupG4, E_par, E_par1, E_app, E_ifOwnS, E_app1, E_app1x, E_app20, E_app2, E_setIx, E_SI1, E_SI2, E_SI3, E_SI4, E_for, E_for1, E_for1x, E_items, E_items1, E_itL, E_itS, E_itT, E_rng1, E_rng11, E_rng2, E_rng21, E_lc, E_lc1, E_lc1x, E_lc2, E_runF, E_runr, E_runn, E_runx, E_runN, E_runNr, E_runH, E_runHr, E_runHn, E_runH2, E_raise1, E_R1, E_raise2, E_R2, E_R22, E_raise0, E_try, E_try1, E_tryr, E_tryx, E_try2, E_try2f, E_beh, E_behr, E_behb, E_behc, E_sl, E_sl1, E_sl2, E_sl3, E_sl3t, E_oN, E_oS, E_oS1, E_ch, E_ch1, E_ch2, E_ch3t, E_ch3f, E_ch4, E_enum, E_enum1, E_zip, E_zip1, E_zip1t, E_add, E_sub, E_neg, E_lt, E_le, E_gt, E_ge, E_eq, E_ne, E_mod, E_trI, E_trB, E_trN, E_trL, E_trT, E_lenL, E_lenT, E_lenS, E_listS, E_intB, E_intI, E_abs, E_listL, E_listT, E_tupleL, E_tupleT, E_dTup0, E_dTup1, E_dTup2, E_dTup3, E_dTup4, E_dTup5, E_dTup6, E_dTup7, E_dTup8, E_dTup9, E_dTup10, E_dTup11, E_dTup12, E_dLst0, E_dLst1, E_dLst2, E_dLst3, E_dLst4, E_dLst5, E_dLst6, E_dLst7, E_dLst8, E_dLst9, E_dLst10, E_dLst11, E_dLst12, E_gcd, E_isNnon, E_notN, E_isB, E_notB, E_ixL, E_ixT, E_at0, E_at1, E_at2, E_at3, E_at4, E_at5, E_isi_int_N, E_isi_int_B, E_isi_int_I, E_isi_int_S, E_isi_int_T, E_isi_int_L, E_isi_int_C, E_isi_bool_N, E_isi_bool_B, E_isi_bool_I, E_isi_bool_S, E_isi_bool_T, E_isi_bool_L, E_isi_bool_C, E_isi_str_N, E_isi_str_B, E_isi_str_I, E_isi_str_S, E_isi_str_T, E_isi_str_L, E_isi_str_C, E_isi_list_N, E_isi_list_B, E_isi_list_I, E_isi_list_S, E_isi_list_T, E_isi_list_L, E_isi_list_C, E_isi_tuple_N, E_isi_tuple_B, E_isi_tuple_I, E_isi_tuple_S, E_isi_tuple_T, E_isi_tuple_L, E_isi_tuple_C, E_isi2_N, E_isi2_B, E_isi2_I, E_isi2_S, E_isi2_T, E_isi2_L, E_isi2_C, E_isN_B, E_notN_B, E_isN_I, E_notN_I, E_isN_S, E_notN_S, E_isN_T, E_notN_T, E_isN_L, E_notN_L, E_isN_C, E_notN_C, E_isa1, E_isa2, E_lk1, E_xf, E_fam, E_mul, E_fdiv, E_ixN, E_decT, E_decF, List.getElem?_cons_zero, List.getElem?_cons_succ, List.set_cons_zero, List.set_cons_succ, List.length_cons, List.length_nil, List.length_map, List.append_nil, List.cons_append, List.nil_append, entry, List.map_cons, List.map_nil, List.replicate_succ, List.replicate_zero, Nat.reduceAdd, Nat.reduceSub, Nat.reduceLT, Nat.reduceLeDiff, Nat.reduceEqDiff, Nat.zero_add, ↓reduceIte, decide_true, decide_false, Bool.not_true, Bool.not_false, eq_self, ne_eq, not_true_eq_false, not_false_eq_true, Int.reduceEq, Int.reduceToNat, Int.toNat_natCast, Int.reduceNe, Int.reduceLT, Int.reduceLE, Int.reduceNeg, Nat.reduceLeDiff, if_true, if_false, decide_not, Bool.true_and, Bool.and_true, Bool.false_and, Bool.and_false, Bool.not_not, reduceCtorEq, e, mul14] <;> rfl)
theorem pl_plus (ha : Bd 1400 a) (hb : Bd 1400 b) (hc : Bd 1400 c) (hd : Bd 1400 d) (b0 : b ≠ 0) (d0 : d ≠ 0) : f__law_plus [R2 a b, R2 c d] = .ok (Lw (a * d + c * b) (b * d)) := by
  have e := pl_ratio (a * d + c * b) (b * d) (Int.mul_ne_zero b0 d0) ((hb.mul hd).mono (by decide))
  unfold f__law_plus m__law_plus
  (simp (disch := first | omega | assumption | (simp only [List.length_cons, List.length_nil, List.length_map, List.length_append, List.length_set]; omega)) only [E_c, E_var, E_own, E_bin, E_bin1, E_bin1x, E_bin2, E_bin2x, E_opt, E_un, E_un1, E_un1x, E_nil, E_cons, E_cons1, E_cons1x, E_cons2, E_cons2x, E_aF, E_tB, E_fB, E_fBx, E_tT, E_fT, E_fTx, E_selt, E_self, E_if, E_ifx, E_rOk, E_tAnd, E_tOr, E_tNot, E_fNotR, E_fNotRx, E_and, E_and1, E_and1x, E_or, E_or1, E_or1x, E_not, E_not1, E_not1x, E_eIf, E_selT, E_call, E_call1, E_call1x, E_to, E_tox, E_callN, E_callN1, E_toN, E_callH, E_ifOwn, E_callH1, E_callH2, E_toH, E_ixO, E_ixO1, E_ixO2, E_move, E_move1, E_ownA, E_ownA1, E_ownV, E_varV, E_seq, E_then, E_thenr, E_thenx, E_thenb, E_thenc, E_seqN, E_thenN, E_next, E_brk, E_ct, E_expr, E_expr1, E_expr1x, E_set, E_set1, E_set1x, E_ret, E_ret1, E_ret1x, E_retN, E_ifS, E_ifS1, E_ifS1x, E_asg, E_asg1, E_asg1x, E_asg2, E_nm, E_nilG, E_consG, E_obind, E_tupG2, E_tupG3, E_tupG4, E_par, E_par1, E_app, E_ifOwnS, E_app1, E_app1x, E_app20, E_app2, E_setIx, E_SI1, E_SI2, E_SI3, E_SI4, E_for, E_for1, E_for1x, E_items, E_items1, E_itL, E_itS, E_itT, E_rng1, E_rng11, E_rng2, E_rng21, E_lc, E_lc1, E_lc1x, E_lc2, E_runF, E_runr, E_runn, E_runx, E_runN, E_runNr, E_runH, E_runHr, E_runHn, E_runH2, E_raise1, E_R1, E_raise2, E_R2, E_R22, E_raise0, E_try, E_try1, E_tryr, E_tryx, E_try2, E_try2f, E_beh, E_behr, E_behb, E_behc, E_sl, E_sl1, E_sl2, E_sl3, E_sl3t, E_oN, E_oS, E_oS1, E_ch, E_ch1, E_ch2, E_ch3t, E_ch3f, E_ch4, E_enum, E_enum1, E_zip, E_zip1, E_zip1t, E_add, E_sub, E_neg, E_lt, E_le, E_gt, E_ge, E_eq, E_ne, E_mod, E_trI, E_trB, E_trN, E_trL, E_trT, E_lenL, E_lenT, E_lenS, E_listS, E_intB, E_intI, E_abs, E_listL, E_listT, E_tupleL, E_tupleT, E_dTup0, E_dTup1, E_dTup2, E_dTup3, E_dTup4, E_dTup5, E_dTup6, E_dTup7, E_dTup8, E_dTup9, E_dTup10, E_dTup11, E_dTup12, E_dLst0, E_dLst1, E_dLst2, E_dLst3, E_dLst4, E_dLst5, E_dLst6, E_dLst7, E_dLst8, E_dLst9, E_dLst10, E_dLst11, E_dLst12, E_gcd, E_isNnon, E_notN, E_isB, E_notB, E_ixL, E_ixT, E_at0, E_at1, E_at2, E_at3, E_at4, E_at5, E_isi_int_N, E_isi_int_B, E_isi_int_I, E_isi_int_S, E_isi_int_T, E_isi_int_L, E_isi_int_C, E_isi_bool_N, E_isi_bool_B, E_isi_bool_I, E_isi_bool_S, E_isi_bool_T, E_isi_bool_L, E_isi_bool_C, E_isi_str_N, E_isi_str_B, E_isi_str_I, E_isi_str_S, E_isi_str_T, E_isi_str_L, E_isi_str_C, E_isi_list_N, E_isi_list_B, E_isi_list_I, E_isi_list_S, E_isi_list_T, E_isi_list_L, E_isi_list_C, E_isi_tuple_N, E_isi_tuple_B, E_isi_tuple_I, E_isi_tuple_S, E_isi_tuple_T, E_isi_tuple_L, E_isi_tuple_C, E_isi2_N, E_isi2_B, E_isi2_I, E_isi2_S, E_isi2_T, E_isi2_L, E_isi2_C, E_isN_B, E_notN_B, E_isN_I, E_notN_I, E_isN_S, E_notN_S, E_isN_T, E_notN_T, E_isN_L, E_notN_L, E_isN_C, E_notN_C, E_isa1, E_isa2, E_lk1, E_xf, E_fam, E_mul, E_fdiv, E_ixN, E_decT, E_decF, List.getElem?_cons_zero, List.getElem?_cons_succ, List.set_cons_zero, List.set_cons_succ, List.length_cons, List.length_nil, List.length_map, List.append_nil, List.cons_append, List.nil_append, entry, List.map_cons, List.map_nil, List.replicate_succ, List.replicate_zero, Nat.reduceAdd, Nat.reduceSub, Nat.reduceLT, Nat.reduceLeDiff, Nat.reduceEqDiff, Nat.zero_add, ↓reduceIte, decide_true, decide_false, Bool.not_true, Bool.not_false, eq_self, ne_eq, not_true_eq_false, not_false_eq_true, Int.reduceEq, Int.reduceToNat, Int.toNat_natCast, Int.reduceNe, Int.reduceLT, Int.reduceLE, Int.reduceNeg, Nat.reduceLeDiff, if_true, if_false, decide_not, Bool.true_and, Bool.and_true, Bool.false_and, Bool.and_false, Bool.not_not, reduceCtorEq, e, mul14] <;> rfl)
theorem pl_sub (ha : Bd 1400 a) (hb : Bd 1400 b) (hc : Bd 1400 c) (hd : Bd 1400 d) (b0 : b ≠ 0) (d0 : d ≠ 0) : f_subtract_ratios [R2 a b, R2 c d] = .ok (Lw (a * d - c * b) (b * d)) := by
  have e := pl_low (a * d - c * b) (b * d) (Int.mul_ne_zero b0 d0) ((hb.mul hd).mono (by decide))
  unfold f_subtract_ratios m_subtract_ratios
  (simp (disch := first | omega | assumption | (simp only [List.length_cons, List.length_nil, List.length_map, List.length_append, List.length_set]; omega)) only [E_c, E_var, E_own, E_bin, E_bin1, E_bin1x, E_bin2, E_bin2x, E_opt, E_un, E_un1, E_un1x, E_nil, E_cons, E_cons1, E_cons1x, E_cons2, E_cons2x, E_aF, E_tB, E_fB, E_fBx, E_tT, E_fT, E_fTx, E_selt, E_self, E_if, E_ifx, E_rOk, E_tAnd, E_tOr, E_tNot, E_fNotR, E_fNotRx, E_and, E_and1, E_and1x, E_or, E_or1, E_or1x, E_not, E_not1, E_not1x, E_eIf, E_selT, E_call, E_call1, E_call1x, E_to, E_tox, E_callN, E_callN1, E_toN, E_callH, E_ifOwn, E_callH1, E_callH2, E_toH, E_ixO, E_ixO1, E_ixO2, E_move, E_move1, E_ownA, E_ownA1, E_ownV, E_varV, E_seq, E_then, E_thenr, E_thenx, E_thenb, E_thenc, E_seqN, E_thenN, E_next, E_brk, E_ct, E_expr, E_expr1, E_expr1x, E_set, E_set1, E_set1x, E_ret, E_ret1, E_ret1x, E_retN, E_ifS, E_ifS1, E_ifS1x, E_asg, E_asg1, E_asg1x, E_asg2, E_nm, E_nilG, E_consG, E_obind, E_tupG2, E_tupG3, E_tupG4, E_par, E_par1, E_app, E_ifOwnS, E_app1, E_app1x, E_app20, E_app2, E_setIx, E_SI1, E_SI2, E_SI3, E_SI4, E_for, E_for1, E_for1x, E_items, E_items1, E_itL, E_itS, E_itT, E_rng1, E_rng11, E_rng2, E_rng21, E_lc, E_lc1, E_lc1x, E_lc2, E_runF, E_runr, E_runn, E_runx, E_runN, E_runNr, E_runH, E_runHr, E_runHn, E_runH2, E_raise1, E_R1, E_raise2, E_R2, E_R22, E_raise0, E_try, E_try1, E_tryr, E_tryx, E_try2, E_try2f, E_beh, E_behr, E_behb, E_behc, E_sl, E_sl1, E_sl2, E_sl3, E_sl3t, E_oN, E_oS, E_oS1, E_ch, E_ch1, E_ch2, E_ch3t, E_ch3f, E_ch4, E_enum, E_enum1, E_zip, E_zip1, E_zip1t, E_add, E_sub, E_neg, E_lt, E_le, E_gt, E_ge, E_eq, E_ne, E_mod, E_trI, E_trB, E_trN, E_trL, E_trT, E_lenL, E_lenT, E_lenS, E_listS, E_intB, E_intI, E_abs, E_listL, E_listT, E_tupleL, E_tupleT, E_dTup0, E_dTup1, E_dTup2, E_dTup3, E_dTup4, E_dTup5, E_dTup6, E_dTup7, E_dTup8, E_dTup9, E_dTup10, E_dTup11, E_dTup12, E_dLst0, E_dLst1, E_dLst2, E_dLst3, E_dLst4, E_dLst5, E_dLst6, E_dLst7, E_dLst8, E_dLst9, E_dLst10, E_dLst11, E_dLst12, E_gcd, E_isNnon, E_notN, E_isB, E_notB, E_ixL, E_ixT, E_at0, E_at1, E_at2, E_at3, E_at4, E_at5, E_isi_int_N, E_isi_int_B, E_isi_int_I, E_isi_int_S, E_isi_int_T, E_isi_int_L, E_isi_int_C, E_isi_bool_N, E_isi_bool_B, E_isi_bool_I, E_isi_bool_S, E_isi_bool_T, E_isi_bool_L, E_isi_bool_C, E_isi_str_N, E_isi_str_B, E_isi_str_I, E_isi_str_S, E_isi_str_T, E_isi_str_L, E_isi_str_C, E_isi_list_N, E_isi_list_B, E_isi_list_I, E_isi_list_S, E_isi_list_T, E_isi_list_L, E_isi_list_C, E_isi_tuple_N, E_isi_tuple_B, E_isi_tuple_I, E_isi_tuple_S, E_isi_tuple_T, E_isi_tuple_L, E_isi_tuple_C, E_isi2_N, E_isi2_B, E_isi2_I, E_isi2_S, E_isi2_T, E_isi2_L, E_isi2_C, E_isN_B, E_notN_B, E_isN_I, E_notN_I, E_isN_S, E_notN_S, E_isN_T, E_notN_T, E_isN_L, E_notN_L, E_isN_C, E_notN_C, E_isa1, E_isa2, E_lk1, E_xf, E_fam, E_mul, E_fdiv, E_ixN, E_decT, E_decF, List.getElem?_cons_zero, List.getElem?_cons_succ, List.set_cons_zero, List.set_cons_succ, List.length_cons, List.length_nil, List.length_map, List.append_nil, List.cons_append, List.nil_append, entry, List.map_cons, List.map_nil, List.replicate_succ, List.replicate_zero, Nat.reduceAdd, Nat.reduceSub, Nat.reduceLT, Nat.reduceLeDiff, Nat.reduceEqDiff, Nat.zero_add, ↓reduceIte, decide_true, decide_false, Bool.not_true, Bool.not_false, eq_self, ne_eq, not_true_eq_false, not_false_eq_true, Int.reduceEq, Int.reduceToNat, Int.toNat_natCast, Int.reduceNe, Int.reduceLT, Int.reduceLE, Int.reduceNeg, Nat.reduceLeDiff, if_true, if_false, decide_not, Bool.true_and, Bool.and_true, Bool.false_and, Bool.and_false, Bool.not_not, reduceCtorEq, e, mul14] <;> rfl)
theorem pl_mul (ha : Bd 1400 a) (hb : Bd 1400 b) (hc : Bd 1400 c) (hd : Bd 1400 d) (b0 : b ≠ 0) (d0 : d ≠ 0) : f_multiply_ratios [R2 a b, R2 c d] = .ok (Lw (a * c) (b * d)) := by
  have e := pl_low (a * c) (b * d) (Int.mul_ne_zero b0 d0) ((hb.mul hd).mono (by decide))
  unfold f_multiply_ratios m_multiply_ratios
  (simp (disch := first | omega | assumption | (simp only [List.length_cons, List.length_nil, List.length_map, List.length_append, List.length_set]; omega)) only [E_c, E_var, E_own, E_bin, E_bin1, E_bin1x, E_bin2, E_bin2x, E_opt, E_un, E_un1, E_un1x, E_nil, E_cons, E_cons1, E_cons1x, E_cons2, E_cons2x, E_aF, E_tB, E_fB, E_fBx, E_tT, E_fT, E_fTx, E_selt, E_self, E_if, E_ifx, E_rOk, E_tAnd, E_tOr, E_tNot, E_fNotR, E_fNotRx, E_and, E_and1, E_and1x, E_or, E_or1, E_or1x, E_not, E_not1, E_not1x, E_eIf, E_selT, E_call, E_call1, E_call1x, E_to, E_tox, E_callN, E_callN1, E_toN, E_callH, E_ifOwn, E_callH1, E_callH2, E_toH, E_ixO, E_ixO1, E_ixO2, E_move, E_move1, E_ownA, E_ownA1, E_ownV, E_varV, E_seq, E_then, E_thenr, E_thenx, E_thenb, E_thenc, E_seqN, E_thenN, E_next, E_brk, E_ct, E_expr, E_expr1, E_expr1x, E_set, E_set1, E_set1x, E_ret, E_ret1, E_ret1x, E_retN, E_ifS, E_ifS1, E_ifS1x, E_asg, E_asg1, E_asg1x, E_asg2, E_nm, E_nilG, E_consG, E_obind, E_tupG2, E_tupG3, E_tupG4, E_par, E_par1, E_app, E_ifOwnS, E_app1, E_app1x, E_app20, E_app2, E_setIx, E_SI1, E_SI2, E_SI3, E_SI4, E_for, E_for1, E_for1x, E_items, E_items1, E_itL, E_itS, E_itT, E_rng1, E_rng11, E_rng2, E_rng21, E_lc, E_lc1, E_lc1x, E_lc2, E_runF, E_runr, E_runn, E_runx, E_runN, E_runNr, E_runH, E_runHr, E_runHn, E_runH2, E_raise1, E_R1, E_raise2, E_R2, E_R22, E_raise0, E_try, E_try1, E_tryr, E_tryx, E_try2, E_try2f, E_beh, E_behr, E_behb, E_behc, E_sl, E_sl1, E_sl2, E_sl3, E_sl3t, E_oN, E_oS, E_oS1, E_ch, E_ch1, E_ch2, E_ch3t, E_ch3f, E_ch4, E_enum, E_enum1, E_zip, E_zip1, E_zip1t, E_add, E_sub, E_neg, E_lt, E_le, E_gt, E_ge, E_eq, E_ne, E_mod, E_trI, E_trB, E_trN, E_trL, E_trT, E_lenL, E_lenT, E_lenS, E_listS, E_intB, E_intI, E_abs, E_listL, E_listT, E_tupleL, E_tupleT, E_dTup0, E_dTup1, E_dTup2, E_dTup3, E_dTup4, E_dTup5, E_dTup6, E_dTup7, E_dTup8, E_dTup9, E_dTup10, E_dTup11, E_dTup12, E_dLst0, E_dLst1, E_dLst2, E_dLst3, E_dLst4, E_dLst5, E_dLst6, E_dLst7, E_dLst8, E_dLst9, E_dLst10, E_dLst11, E_dLst12, E_gcd, E_isNnon, E_notN, E_isB, E_notB, E_ixL, E_ixT, E_at0, E_at1, E_at2, E_at3, E_at4, E_at5, E_isi_int_N, E_isi_int_B, E_isi_int_I, E_isi_int_S, E_isi_int_T, E_isi_int_L, E_isi_int_C, E_isi_bool_N, E_isi_bool_B, E_isi_bool_I, E_isi_bool_S, E_isi_bool_T, E_isi_bool_L, E_isi_bool_C, E_isi_str_N, E_isi_str_B, E_isi_str_I, E_isi_str_S, E_isi_str_T, E_isi_str_L, E_isi_str_C, E_isi_list_N, E_isi_list_B, E_isi_list_I, E_isi_list_S, E_isi_list_T, E_isi_list_L, E_isi_list_C, E_isi_tuple_N, E_isi_tuple_B, E_isi_tuple_I, E_isi_tuple_S, E_isi_tuple_T, E_isi_tuple_L, E_isi_tuple_C, E_isi2_N, E_isi2_B, E_isi2_I, E_isi2_S, E_isi2_T, E_isi2_L, E_isi2_C, E_isN_B, E_notN_B, E_isN_I, E_notN_I, E_isN_S, E_notN_S, E_isN_T, E_notN_T, E_isN_L, E_notN_L, E_isN_C, E_notN_C, E_isa1, E_isa2, E_lk1, E_xf, E_fam, E_mul, E_fdiv, E_ixN, E_decT, E_decF, List.getElem?_cons_zero, List.getElem?_cons_succ, List.set_cons_zero, List.set_cons_succ, List.length_cons, List.length_nil, List.length_map, List.append_nil, List.cons_append, List.nil_append, entry, List.map_cons, List.map_nil, List.replicate_succ, List.replicate_zero, Nat.reduceAdd, Nat.reduceSub, Nat.reduceLT, Nat.reduceLeDiff, Nat.reduceEqDiff, Nat.zero_add, ↓reduceIte, decide_true, decide_false, Bool.not_true, Bool.not_false, eq_self, ne_eq, not_true_eq_false, not_false_eq_true, Int.reduceEq, Int.reduceToNat, Int.toNat_natCast, Int.reduceNe, Int.reduceLT, Int.reduceLE, Int.reduceNeg, Nat.reduceLeDiff, if_true, if_false, decide_not, Bool.true_and, Bool.and_true, Bool.false_and, Bool.and_false, Bool.not_not, reduceCtorEq, e, mul14] <;> rfl)
theorem pl_times (ha : Bd 1400 a) (hb : Bd 1400 b) (hc : Bd 1400 c) (hd : Bd 1400 d) (b0 : b ≠ 0) (d0 : d ≠ 0) : f__law_times [R2 a b, R2 c d] = .ok (Lw (a * c) (b * d)) := by
  have e := pl_ratio (a * c) (b * d) (Int.mul_ne_zero b0 d0) ((hb.mul hd).mono (by decide))
  unfold f__law_times m__law_times
  (simp (disch := first | omega | assumption | (simp only [List.length_cons, List.length_nil, List.length_map, List.length_append, List.length_set]; omega)) only [E_c, E_var, E_own, E_bin, E_bin1, E_bin1x, E_bin2, E_bin2x, E_opt, E_un, E_un1, E_un1x, E_nil, E_cons, E_cons1, E_cons1x, E_cons2, E_cons2x, E_aF, E_tB, E_fB, E_fBx, E_tT, E_fT, E_fTx, E_selt, E_self, E_if, E_ifx, E_rOk, E_tAnd, E_tOr, E_tNot, E_fNotR, E_fNotRx, E_and, E_and1, E_and1x, E_or, E_or1, E_or1x, E_not, E_not1, E_not1x, E_eIf, E_selT, E_call, E_call1, E_call1x, E_to, E_tox, E_callN, E_callN1, E_toN, E_callH, E_ifOwn, E_callH1, E_callH2, E_toH, E_ixO, E_ixO1, E_ixO2, E_move, E_move1, E_ownA, E_ownA1, E_ownV, E_varV, E_seq, E_then, E_thenr, E_thenx, E_thenb, E_thenc, E_seqN, E_thenN, E_next, E_brk, E_ct, E_expr, E_expr1, E_expr1x, E_set, E_set1, E_set1x, E_ret, E_ret1, E_ret1x, E_retN, E_ifS, E_ifS1, E_ifS1x, E_asg, E_asg1, E_asg1x, E_asg2, E_nm, E_nilG, E_consG, E_obind, E_tupG2, E_tupG3, E_tupG4, E_par, E_par1, E_app, E_ifOwnS, E_app1, E_app1x, E_app20, E_app2, E_setIx, E_SI1, E_SI2, E_SI3, E_SI4, E_for, E_for1, E_for1x, E_items, E_items1, E_itL, E_itS, E_itT, E_rng1, E_rng11, E_rng2, E_rng21, E_lc, E_lc1, E_lc1x, E_lc2, E_runF, E_runr, E_runn, E_runx, E_runN, E_runNr, E_runH, E_runHr, E_runHn, E_runH2, E_raise1, E_R1, E_raise2, E_R2, E_R22, E_raise0, E_try, E_try1, E_tryr, E_tryx, E_try2, E_try2f, E_beh, E_behr, E_behb, E_behc, E_sl, E_sl1, E_sl2, E_sl3, E_sl3t, E_oN, E_oS, E_oS1, E_ch, E_ch1, E_ch2, E_ch3t, E_ch3f, E_ch4, E_enum, E_enum1, E_zip, E_zip1, E_zip1t, E_add, E_sub, E_neg, E_lt, E_le, E_gt, E_ge, E_eq, E_ne, E_mod, E_trI, E_trB, E_trN, E_trL, E_trT, E_lenL, E_lenT, E_lenS, E_listS, E_intB, E_intI, E_abs, E_listL, E_listT, E_tupleL, E_tupleT, E_dTup0, E_dTup1, E_dTup2, E_dTup3, E_dTup4, E_dTup5, E_dTup6, E_dTup7, E_dTup8, E_dTup9, E_dTup10, E_dTup11, E_dTup12, E_dLst0, E_dLst1, E_dLst2, E_dLst3, E_dLst4, E_dLst5, E_dLst6, E_dLst7, E_dLst8, E_dLst9, E_dLst10, E_dLst11, E_dLst12, E_gcd, E_isNnon, E_notN, E_isB, E_notB, E_ixL, E_ixT, E_at0, E_at1, E_at2, E_at3, E_at4, E_at5, E_isi_int_N, E_isi_int_B, E_isi_int_I, E_isi_int_S, E_isi_int_T, E_isi_int_L, E_isi_int_C, E_isi_bool_N, E_isi_bool_B, E_isi_bool_I, E_isi_bool_S, E_isi_bool_T, E_isi_bool_L, E_isi_bool_C, E_isi_str_N, E_isi_str_B, E_isi_str_I, E_isi_str_S, E_isi_str_T, E_isi_str_L, E_isi_str_C, E_isi_list_N, E_isi_list_B, E_isi_list_I, E_isi_list_S, E_isi_list_T, E_isi_list_L, E_isi_list_C, E_isi_tuple_N, E_isi_tuple_B, E_isi_tuple_I, E_isi_tuple_S, E_isi_tuple_T, E_isi_tuple_L, E_isi_tuple_C, E_isi2_N, E_isi2_B, E_isi2_I, E_isi2_S, E_isi2_T, E_isi2_L, E_isi2_C, E_isN_B, E_notN_B, E_isN_I, E_notN_I, E_isN_S, E_notN_S, E_isN_T, E_notN_T, E_isN_L, E_notN_L, E_isN_C, E_notN_C, E_isa1, E_isa2, E_lk1, E_xf, E_fam, E_mul, E_fdiv, E_ixN, E_decT, E_decF, List.getElem?_cons_zero, List.getElem?_cons_succ, List.set_cons_zero, List.set_cons_succ, List.length_cons, List.length_nil, List.length_map, List.append_nil, List.cons_append, List.nil_append, entry, List.map_cons, List.map_nil, List.replicate_succ, List.replicate_zero, Nat.reduceAdd, Nat.reduceSub, Nat.reduceLT, Nat.reduceLeDiff, Nat.reduceEqDiff, Nat.zero_add, ↓reduceIte, decide_true, decide_false, Bool.not_true, Bool.not_false, eq_self, ne_eq, not_true_eq_false, not_false_eq_true, Int.reduceEq, Int.reduceToNat, Int.toNat_natCast, Int.reduceNe, Int.reduceLT, Int.reduceLE, Int.reduceNeg, Nat.reduceLeDiff, if_true, if_false, decide_not, Bool.true_and, Bool.and_true, Bool.false_and, Bool.and_false, Bool.not_not, reduceCtorEq, e, mul14] <;> rfl)
theorem pl_div (ha : Bd 1400 a) (hb : Bd 1400 b) (hc : Bd 1400 c) (hd : Bd 1400 d) (b0 : b ≠ 0) (c0 : c ≠ 0) : f_divide_ratios [R2 a b, R2 c d] = .ok (Lw (a * d) (b * c)) := by
  have e := pl_low (a * d) (b * c) (Int.mul_ne_zero b0 c0) ((hb.mul hc).mono (by decide))
  unfold f_divide_ratios m_divide_ratios
  (simp (disch := first | omega | assumption | (simp only [List.length_cons, List.length_nil, List.length_map, List.length_append, List.length_set]; omega)) only [E_c, E_var, E_own, E_bin, E_bin1, E_bin1x, E_bin2, E_bin2x, E_opt, E_un, E_un1, E_un1x, E_nil, E_cons, E_cons1, E_cons1x, E_cons2, E_cons2x, E_aF, E_tB, E_fB, E_fBx, E_tT, E_fT, E_fTx, E_selt, E_self, E_if, E_ifx, E_rOk, E_tAnd, E_tOr, E_tNot, E_fNotR, E_fNotRx, E_and, E_and1, E_and1x, E_or, E_or1, E_or1x, E_not, E_not1, E_not1x, E_eIf, E_selT, E_call, E_call1, E_call1x, E_to, E_tox, E_callN, E_callN1, E_toN, E_callH, E_ifOwn, E_callH1, E_callH2, E_toH, E_ixO, E_ixO1, E_ixO2, E_move, E_move1, E_ownA, E_ownA1, E_ownV, E_varV, E_seq, E_then, E_thenr, E_thenx, E_thenb, E_thenc, E_seqN, E_thenN, E_next, E_brk, E_ct, E_expr, E_expr1, E_expr1x, E_set, E_set1, E_set1x, E_ret, E_ret1, E_ret1x, E_retN, E_ifS, E_ifS1, E_ifS1x, E_asg, E_asg1, E_asg1x, E_asg2, E_nm, E_nilG, E_consG, E_obind, E_tupG2, E_tupG3, E_tupG4, E_par, E_par1, E_app, E_ifOwnS, E_app1, E_app1x, E_app20, E_app2, E_setIx, E_SI1, E_SI2, E_SI3, E_SI4, E_for, E_for1, E_for1x, E_items, E_items1, E_itL, E_itS, E_itT, E_rng1, E_rng11, E_rng2, E_rng21, E_lc, E_lc1, E_lc1x, E_lc2, E_runF, E_runr, E_runn, E_runx, E_runN, E_runNr, E_runH, E_runHr, E_runHn, E_runH2, E_raise1, E_R1, E_raise2, E_R2, E_R22, E_raise0, E_try, E_try1, E_tryr, E_tryx, E_try2, E_try2f, E_beh, E_behr, E_behb, E_behc, E_sl, E_sl1, E_sl2, E_sl3, E_sl3t, E_oN, E_oS, E_oS1, E_ch, E_ch1, E_ch2, E_ch3t, E_ch3f, E_ch4, E_enum, E_enum1, E_zip, E_zip1, E_zip1t, E_add, E_sub, E_neg, E_lt, E_le, E_gt, E_ge, E_eq, E_ne, E_mod, E_trI, E_trB, E_trN, E_trL, E_trT, E_lenL, E_lenT, E_lenS, E_listS, E_intB, E_intI, E_abs, E_listL, E_listT, E_tupleL, E_tupleT, E_dTup0, E_dTup1, E_dTup2, E_dTup3, E_dTup4, E_dTup5, E_dTup6, E_dTup7, E_dTup8, E_dTup9, E_dTup10, E_dTup11, E_dTup12, E_dLst0, E_dLst1, E_dLst2, E_dLst3, E_dLst4, E_dLst5, E_dLst6, E_dLst7, E_dLst8, E_dLst9, E_dLst10, E_dLst11, E_dLst12, E_gcd, E_isNnon, E_notN, E_isB, E_notB, E_ixL, E_ixT, E_at0, E_at1, E_at2, E_at3, E_at4, E_at5, E_isi_int_N, E_isi_int_B, E_isi_int_I, E_isi_int_S, E_isi_int_T, E_isi_int_L, E_isi_int_C, E_isi_bool_N, E_isi_bool_B, E_isi_bool_I, E_isi_bool_S, E_isi_bool_T, E_isi_bool_L, E_isi_bool_C, E_isi_str_N, E_isi_str_B, E_isi_str_I, E_isi_str_S, E_isi_str_T, E_isi_str_L, E_isi_str_C, E_isi_list_N, E_isi_list_B, E_isi_list_I, E_isi_list_S, E_isi_list_T, E_isi_list_L, E_isi_list_C, E_isi_tuple_N, E_isi_tuple_B, E_isi_tuple_I, E_isi_tuple_S, E_isi_tuple_T, E_isi_tuple_L, E_isi_tuple_C, E_isi2_N, E_isi2_B, E_isi2_I, E_isi2_S, E_isi2_T, E_isi2_L, E_isi2_C, E_isN_B, E_notN_B, E_isN_I, E_notN_I, E_isN_S, E_notN_S, E_isN_T, E_notN_T, E_isN_L, E_notN_L, E_isN_C, E_notN_C, E_isa1, E_isa2, E_lk1, E_xf, E_fam, E_mul, E_fdiv, E_ixN, E_decT, E_decF, List.getElem?_cons_zero, List.getElem?_cons_succ, List.set_cons_zero, List.set_cons_succ, List.length_cons, List.length_nil, List.length_map, List.append_nil, List.cons_append, List.nil_append, entry, List.map_cons, List.map_nil, List.replicate_succ, List.replicate_zero, Nat.reduceAdd, Nat.reduceSub, Nat.reduceLT, Nat.reduceLeDiff, Nat.reduceEqDiff, Nat.zero_add, ↓reduceIte, decide_true, decide_false, Bool.not_true, Bool.not_false, eq_self, ne_eq, not_true_eq_false, not_false_eq_true, Int.reduceEq, Int.reduceToNat, Int.toNat_natCast, Int.reduceNe, Int.reduceLT, Int.reduceLE, Int.reduceNeg, Nat.reduceLeDiff, if_true, if_false, decide_not, Bool.true_and, Bool.and_true, Bool.false_and, Bool.and_false, Bool.not_not, reduceCtorEq, e, mul14] <;> rfl)
theorem pl_div0 : f_divide_ratios [R2 a b, R2 0 d] = .exc (.ins 1 ["what"] [.str "zero"]) := by
  unfold f_divide_ratios m_divide_ratios
  (simp (disch := first | omega | assumption | (simp only [List.length_cons, List.length_nil, List.length_map, List.length_append, List.length_set]; omega)) only [E_c, E_var, E_own, E_bin, E_bin1, E_bin1x, E_bin2, E_bin2x, E_opt, E_un, E_un1, E_un1x, E_nil, E_cons, E_cons1, E_cons1x, E_cons2, E_cons2x, E_aF, E_tB, E_fB, E_fBx, E_tT, E_fT, E_fTx, E_selt, E_self, E_if, E_ifx, E_rOk, E_tAnd, E_tOr, E_tNot, E_fNotR, E_fNotRx, E_and, E_and1, E_and1x, E_or, E_or1, E_or1x, E_not, E_not1, E_not1x, E_eIf, E_selT, E_call, E_call1, E_call1x, E_to, E_tox, E_callN, E_callN1, E_toN, E_callH, E_ifOwn, E_callH1, E_callH2, E_toH, E_ixO, E_ixO1, E_ixO2, E_move, E_move1, E_ownA, E_ownA1, E_ownV, E_varV, E_seq, E_then, E_thenr, E_thenx, E_thenb, E_thenc, E_seqN, E_thenN, E_next, E_brk, E_ct, E_expr, E_expr1, E_expr1x, E_set, E_set1, E_set1x, E_ret, E_ret1, E_ret1x, E_retN, E_ifS, E_ifS1, E_ifS1x, E_asg, E_asg1, E_asg1x, E_asg2, E_nm, E_nilG, E_consG, E_obind, E_tupG2, E_tupG3, E_tupG4, E_par, E_par1, E_app, E_ifOwnS, E_app1, E_app1x, E_app20, E_app2, E_setIx, E_SI1, E_SI2, E_SI3, E_SI4, E_for, E_for1, E_for1x, E_items, E_items1, E_itL, E_itS, E_itT, E_rng1, E_rng11, E_rng2, E_rng21, E_lc, E_lc1, E_lc1x, E_lc2, E_runF, E_runr, E_runn, E_runx, E_runN, E_runNr, E_runH, E_runHr, E_runHn, E_runH2, E_raise1, E_R1, E_raise2, E_R2, E_R22, E_raise0, E_try, E_try1, E_tryr, E_tryx, E_try2, E_try2f, E_beh, E_behr, E_behb, E_behc, E_sl, E_sl1, E_sl2, E_sl3, E_sl3t, E_oN, E_oS, E_oS1, E_ch, E_ch1, E_ch2, E_ch3t, E_ch3f, E_ch4, E_enum, E_enum1, E_zip, E_zip1, E_zip1t, E_add, E_sub, E_neg, E_lt, E_le, E_gt, E_ge, E_eq, E_ne, E_mod, E_trI, E_trB, E_trN, E_trL, E_trT, E_lenL, E_lenT, E_lenS, E_listS, E_intB, E_intI, E_abs, E_listL, E_listT, E_tupleL, E_tupleT, E_dTup0, E_dTup1, E_dTup2, E_dTup3, E_dTup4, E_dTup5, E_dTup6, E_dTup7, E_dTup8, E_dTup9, E_dTup10, E_dTup11, E_dTup12, E_dLst0, E_dLst1, E_dLst2, E_dLst3, E_dLst4, E_dLst5, E_dLst6, E_dLst7, E_dLst8, E_dLst9, E_dLst10, E_dLst11, E_dLst12, E_gcd, E_isNnon, E_notN, E_isB, E_notB, E_ixL, E_ixT, E_at0, E_at1, E_at2, E_at3, E_at4, E_at5, E_isi_int_N, E_isi_int_B, E_isi_int_I, E_isi_int_S, E_isi_int_T, E_isi_int_L, E_isi_int_C, E_isi_bool_N, E_isi_bool_B, E_isi_bool_I, E_isi_bool_S, E_isi_bool_T, E_isi_bool_L, E_isi_bool_C, E_isi_str_N, E_isi_str_B, E_isi_str_I, E_isi_str_S, E_isi_str_T, E_isi_str_L, E_isi_str_C, E_isi_list_N, E_isi_list_B, E_isi_list_I, E_isi_list_S, E_isi_list_T, E_isi_list_L, E_isi_list_C, E_isi_tuple_N, E_isi_tuple_B, E_isi_tuple_I, E_isi_tuple_S, E_isi_tuple_T, E_isi_tuple_L, E_isi_tuple_C, E_isi2_N, E_isi2_B, E_isi2_I, E_isi2_S, E_isi2_T, E_isi2_L, E_isi2_C, E_isN_B, E_notN_B, E_isN_I, E_notN_I, E_isN_S, E_notN_S, E_isN_T, E_notN_T, E_isN_L, E_notN_L, E_isN_C, E_notN_C, E_isa1, E_isa2, E_lk1, E_xf, E_fam, E_mul, E_fdiv, E_ixN, E_decT, E_decF, List.getElem?_cons_zero, List.getElem?_cons_succ, List.set_cons_zero, List.set_cons_succ, List.length_cons, List.length_nil, List.length_map, List.append_nil, List.cons_append, List.nil_append, entry, List.map_cons, List.map_nil, List.replicate_succ, List.replicate_zero, Nat.reduceAdd, Nat.reduceSub, Nat.reduceLT, Nat.reduceLeDiff, Nat.reduceEqDiff, Nat.zero_add, ↓reduceIte, decide_true, decide_false, Bool.not_true, Bool.not_false, eq_self, ne_eq, not_true_eq_false, not_false_eq_true, Int.reduceEq, Int.reduceToNat, Int.toNat_natCast, Int.reduceNe, Int.reduceLT, Int.reduceLE, Int.reduceNeg, Nat.reduceLeDiff, if_true, if_false, decide_not, Bool.true_and, Bool.and_true, Bool.false_and, Bool.and_false, Bool.not_not, reduceCtorEq] <;> rfl)
theorem pl_divided (ha : Bd 1400 a) (hb : Bd 1400 b) (hc : Bd 1400 c) (hd : Bd 1400 d) (b0 : b ≠ 0) (c0 : c ≠ 0) : f__law_divided [R2 a b, R2 c d] = .ok (Lw (a * d) (b * c)) := by
  have e := pl_div ha hb hc hd b0 c0
  unfold f__law_divided m__law_divided
  (simp (disch := first | omega | assumption | (simp only [List.length_cons, List.length_nil, List.length_map, List.length_append, List.length_set]; omega)) only [E_c, E_var, E_own, E_bin, E_bin1, E_bin1x, E_bin2, E_bin2x, E_opt, E_un, E_un1, E_un1x, E_nil, E_cons, E_cons1, E_cons1x, E_cons2, E_cons2x, E_aF, E_tB, E_fB, E_fBx, E_tT, E_fT, E_fTx, E_selt, E_self, E_if, E_ifx, E_rOk, E_tAnd, E_tOr, E_tNot, E_fNotR, E_fNotRx, E_and, E_and1, E_and1x, E_or, E_or1, E_or1x, E_not, E_not1, E_not1x, E_eIf, E_selT, E_call, E_call1, E_call1x, E_to, E_tox, E_callN, E_callN1, E_toN, E_callH, E_ifOwn, E_callH1, E_callH2, E_toH, E_ixO, E_ixO1, E_ixO2, E_move, E_move1, E_ownA, E_ownA1, E_ownV, E_varV, E_seq, E_then, E_thenr, E_thenx, E_thenb, E_thenc, E_seqN, E_thenN, E_next, E_brk, E_ct, E_expr, E_expr1, E_expr1x, E_set, E_set1, E_set1x, E_ret, E_ret1, E_ret1x, E_retN, E_ifS, E_ifS1, E_ifS1x, E_asg, E_asg1, E_asg1x, E_asg2, E_nm, E_nilG, E_consG, E_obind, E_tupG2, E_tupG3, E_tupG4, E_par, E_par1, E_app, E_ifOwnS, E_app1, E_app1x, E_app20, E_app2, E_setIx, E_SI1, E_SI2, E_SI3, E_SI4, E_for, E_for1, E_for1x, E_items, E_items1, E_itL, E_itS, E_itT, E_rng1, E_rng11, E_rng2, E_rng21, E_lc, E_lc1, E_lc1x, E_lc2, E_runF, E_runr, E_runn, E_runx, E_runN, E_runNr, E_runH, E_runHr, E_runHn, E_runH2, E_raise1, E_R1, E_raise2, E_R2, E_R22, E_raise0, E_try, E_try1, E_tryr, E_tryx, E_try2, E_try2f, E_beh, E_behr, E_behb, E_behc, E_sl, E_sl1, E_sl2, E_sl3, E_sl3t, E_oN, E_oS, E_oS1, E_ch, E_ch1, E_ch2, E_ch3t, E_ch3f, E_ch4, E_enum, E_enum1, E_zip, E_zip1, E_zip1t, E_add, E_sub, E_neg, E_lt, E_le, E_gt, E_ge, E_eq, E_ne, E_mod, E_trI, E_trB, E_trN, E_trL, E_trT, E_lenL, E_lenT, E_lenS, E_listS, E_intB, E_intI, E_abs, E_listL, E_listT, E_tupleL, E_tupleT, E_dTup0, E_dTup1, E_dTup2, E_dTup3, E_dTup4, E_dTup5, E_dTup6, E_dTup7, E_dTup8, E_dTup9, E_dTup10, E_dTup11, E_dTup12, E_dLst0, E_dLst1, E_dLst2, E_dLst3, E_dLst4, E_dLst5, E_dLst6, E_dLst7, E_dLst8, E_dLst9, E_dLst10, E_dLst11, E_dLst12, E_gcd, E_isNnon, E_notN, E_isB, E_notB, E_ixL, E_ixT, E_at0, E_at1, E_at2, E_at3, E_at4, E_at5, E_isi_int_N, E_isi_int_B, E_isi_int_I, E_isi_int_S, E_isi_int_T, E_isi_int_L, E_isi_int_C, E_isi_bool_N, E_isi_bool_B, E_isi_bool_I, E_isi_bool_S, E_isi_bool_T, E_isi_bool_L, E_isi_bool_C, E_isi_str_N, E_isi_str_B, E_isi_str_I, E_isi_str_S, E_isi_str_T, E_isi_str_L, E_isi_str_C, E_isi_list_N, E_isi_list_B, E_isi_list_I, E_isi_list_S, E_isi_list_T, E_isi_list_L, E_isi_list_C, E_isi_tuple_N, E_isi_tuple_B, E_isi_tuple_I, E_isi_tuple_S, E_isi_tuple_T, E_isi_tuple_L, E_isi_tuple_C, E_isi2_N, E_isi2_B, E_isi2_I, E_isi2_S, E_isi2_T, E_isi2_L, E_isi2_C, E_isN_B, E_notN_B, E_isN_I, E_notN_I, E_isN_S, E_notN_S, E_isN_T, E_notN_T, E_isN_L, E_notN_L, E_isN_C, E_notN_C, E_isa1, E_isa2, E_lk1, E_xf, E_fam, E_mul, E_fdiv, E_ixN, E_decT, E_decF, List.getElem?_cons_zero, List.getElem?_cons_succ, List.set_cons_zero, List.set_cons_succ, List.length_cons, List.length_nil, List.length_map, List.append_nil, List.cons_append, List.nil_append, entry, List.map_cons, List.map_nil, List.replicate_succ, List.replicate_zero, Nat.reduceAdd, Nat.reduceSub, Nat.reduceLT, Nat.reduceLeDiff, Nat.reduceEqDiff, Nat.zero_add, ↓reduceIte, decide_true, decide_false, Bool.not_true, Bool.not_false, eq_self, ne_eq, not_true_eq_false, not_false_eq_true, Int.reduceEq, Int.reduceToNat, Int.toNat_natCast, Int.reduceNe, Int.reduceLT, Int.reduceLE, Int.reduceNeg, Nat.reduceLeDiff, if_true, if_false, decide_not, Bool.true_and, Bool.and_true, Bool.false_and, Bool.and_false, Bool.not_not, reduceCtorEq, e] <;> rfl)
theorem pl_divided0 : f__law_divided [R2 a b, R2 0 d] = .ok (.lst [.str "zero", .bl true]) := by
  have e := pl_div0 (a := a) (b := b) (d := d)
  unfold f__law_divided m__law_divided
  (simp (disch := first | omega | assumption | (simp only [List.length_cons, List.length_nil, List.length_map, List.length_append, List.length_set]; omega)) only [E_c, E_var, E_own, E_bin, E_bin1, E_bin1x, E_bin2, E_bin2x, E_opt, E_un, E_un1, E_un1x, E_nil, E_cons, E_cons1, E_cons1x, E_cons2, E_cons2x, E_aF, E_tB, E_fB, E_fBx, E_tT, E_fT, E_fTx, E_selt, E_self, E_if, E_ifx, E_rOk, E_tAnd, E_tOr, E_tNot, E_fNotR, E_fNotRx, E_and, E_and1, E_and1x, E_or, E_or1, E_or1x, E_not, E_not1, E_not1x, E_eIf, E_selT, E_call, E_call1, E_call1x, E_to, E_tox, E_callN, E_callN1, E_toN, E_callH, E_ifOwn, E_callH1, E_callH2, E_toH, E_ixO, E_ixO1, E_ixO2, E_move, E_move1, E_ownA, E_ownA1, E_ownV, E_varV, E_seq, E_then, E_thenr, E_thenx, E_thenb, E_thenc, E_seqN, E_thenN, E_next, E_brk, E_ct, E_expr, E_expr1, E_expr1x, E_set, E_set1, E_set1x, E_ret, E_ret1, E_ret1x, E_retN, E_ifS, E_ifS1, E_ifS1x, E_asg, E_asg1, E_asg1x, E_asg2, E_nm, E_nilG, E_consG, E_obind, E_tupG2, E_tupG3, E_tupG4, E_par, E_par1, E_app, E_ifOwnS, E_app1, E_app1x, E_app20, E_app2, E_setIx, E_SI1, E_SI2, E_SI3, E_SI4, E_for, E_for1, E_for1x, E_items, E_items1, E_itL, E_itS, E_itT, E_rng1, E_rng11, E_rng2, E_rng21, E_lc, E_lc1, E_lc1x, E_lc2, E_runF, E_runr, E_runn, E_runx, E_runN, E_runNr, E_runH, E_runHr, E_runHn, E_runH2, E_raise1, E_R1, E_raise2, E_R2, E_R22, E_raise0, E_try, E_try1, E_tryr, E_tryx, E_try2, E_try2f, E_beh, E_behr, E_behb, E_behc, E_sl, E_sl1, E_sl2, E_sl3, E_sl3t, E_oN, E_oS, E_oS1, E_ch, E_ch1, E_ch2, E_ch3t, E_ch3f, E_ch4, E_enum, E_enum1, E_zip, E_zip1, E_zip1t, E_add, E_sub, E_neg, E_lt, E_le, E_gt, E_ge, E_eq, E_ne, E_mod, E_trI, E_trB, E_trN, E_trL, E_trT, E_lenL, E_lenT, E_lenS, E_listS, E_intB, E_intI, E_abs, E_listL, E_listT, E_tupleL, E_tupleT, E_dTup0, E_dTup1, E_dTup2, E_dTup3, E_dTup4, E_dTup5, E_dTup6, E_dTup7, E_dTup8, E_dTup9, E_dTup10, E_dTup11, E_dTup12, E_dLst0, E_dLst1, E_dLst2, E_dLst3, E_dLst4, E_dLst5, E_dLst6, E_dLst7, E_dLst8, E_dLst9, E_dLst10, E_dLst11, E_dLst12, E_gcd, E_isNnon, E_notN, E_isB, E_notB, E_ixL, E_ixT, E_at0, E_at1, E_at2, E_at3, E_at4, E_at5, E_isi_int_N, E_isi_int_B, E_isi_int_I, E_isi_int_S, E_isi_int_T, E_isi_int_L, E_isi_int_C, E_isi_bool_N, E_isi_bool_B, E_isi_bool_I, E_isi_bool_S, E_isi_bool_T, E_isi_bool_L, E_isi_bool_C, E_isi_str_N, E_isi_str_B, E_isi_str_I, E_isi_str_S, E_isi_str_T, E_isi_str_L, E_isi_str_C, E_isi_list_N, E_isi_list_B, E_isi_list_I, E_isi_list_S, E_isi_list_T, E_isi_list_L, E_isi_list_C, E_isi_tuple_N, E_isi_tuple_B, E_isi_tuple_I, E_isi_tuple_S, E_isi_tuple_T, E_isi_tuple_L, E_isi_tuple_C, E_isi2_N, E_isi2_B, E_isi2_I, E_isi2_S, E_isi2_T, E_isi2_L, E_isi2_C, E_isN_B, E_notN_B, E_isN_I, E_notN_I, E_isN_S, E_notN_S, E_isN_T, E_notN_T, E_isN_L, E_notN_L, E_isN_C, E_notN_C, E_isa1, E_isa2, E_lk1, E_xf, E_fam, E_mul, E_fdiv, E_ixN, E_decT, E_decF, List.getElem?_cons_zero, List.getElem?_cons_succ, List.set_cons_zero, List.set_cons_succ, List.length_cons, List.length_nil, List.length_map, List.append_nil, List.cons_append, List.nil_append, entry, List.map_cons, List.map_nil, List.replicate_succ, List.replicate_zero, Nat.reduceAdd, Nat.reduceSub, Nat.reduceLT, Nat.reduceLeDiff, Nat.reduceEqDiff, Nat.zero_add, ↓reduceIte, decide_true, decide_false, Bool.not_true, Bool.not_false, eq_self, ne_eq, not_true_eq_false, not_false_eq_true, Int.reduceEq, Int.reduceToNat, Int.toNat_natCast, Int.reduceNe, Int.reduceLT, Int.reduceLE, Int.reduceNeg, Nat.reduceLeDiff, if_true, if_false, decide_not, Bool.true_and, Bool.and_true, Bool.false_and, Bool.and_false, Bool.not_not, reduceCtorEq, e] <;> rfl)
theorem pl_below (ha : Bd 1400 a) (hb : Bd 1400 b) (hc : Bd 1400 c) (hd : Bd 1400 d) : f__law_below [R2 a b, R2 c d] = .ok (.bl (decide (a * d < c * b))) := by
  unfold f__law_below m__law_below
  (simp (disch := first | omega | assumption | (simp only [List.length_cons, List.length_nil, List.length_map, List.length_append, List.length_set]; omega)) only [E_c, E_var, E_own, E_bin, E_bin1, E_bin1x, E_bin2, E_bin2x, E_opt, E_un, E_un1, E_un1x, E_nil, E_cons, E_cons1, E_cons1x, E_cons2, E_cons2x, E_aF, E_tB, E_fB, E_fBx, E_tT, E_fT, E_fTx, E_selt, E_self, E_if, E_ifx, E_rOk, E_tAnd, E_tOr, E_tNot, E_fNotR, E_fNotRx, E_and, E_and1, E_and1x, E_or, E_or1, E_or1x, E_not, E_not1, E_not1x, E_eIf, E_selT, E_call, E_call1, E_call1x, E_to, E_tox, E_callN, E_callN1, E_toN, E_callH, E_ifOwn, E_callH1, E_callH2, E_toH, E_ixO, E_ixO1, E_ixO2, E_move, E_move1, E_ownA, E_ownA1, E_ownV, E_varV, E_seq, E_then, E_thenr, E_thenx, E_thenb, E_thenc, E_seqN, E_thenN, E_next, E_brk, E_ct, E_expr, E_expr1, E_expr1x, E_set, E_set1, E_set1x, E_ret, E_ret1, E_ret1x, E_retN, E_ifS, E_ifS1, E_ifS1x, E_asg, E_asg1, E_asg1x, E_asg2, E_nm, E_nilG, E_consG, E_obind, E_tupG2, E_tupG3, E_tupG4, E_par, E_par1, E_app, E_ifOwnS, E_app1, E_app1x, E_app20, E_app2, E_setIx, E_SI1, E_SI2, E_SI3, E_SI4, E_for, E_for1, E_for1x, E_items, E_items1, E_itL, E_itS, E_itT, E_rng1, E_rng11, E_rng2, E_rng21, E_lc, E_lc1, E_lc1x, E_lc2, E_runF, E_runr, E_runn, E_runx, E_runN, E_runNr, E_runH, E_runHr, E_runHn, E_runH2, E_raise1, E_R1, E_raise2, E_R2, E_R22, E_raise0, E_try, E_try1, E_tryr, E_tryx, E_try2, E_try2f, E_beh, E_behr, E_behb, E_behc, E_sl, E_sl1, E_sl2, E_sl3, E_sl3t, E_oN, E_oS, E_oS1, E_ch, E_ch1, E_ch2, E_ch3t, E_ch3f, E_ch4, E_enum, E_enum1, E_zip, E_zip1, E_zip1t, E_add, E_sub, E_neg, E_lt, E_le, E_gt, E_ge, E_eq, E_ne, E_mod, E_trI, E_trB, E_trN, E_trL, E_trT, E_lenL, E_lenT, E_lenS, E_listS, E_intB, E_intI, E_abs, E_listL, E_listT, E_tupleL, E_tupleT, E_dTup0, E_dTup1, E_dTup2, E_dTup3, E_dTup4, E_dTup5, E_dTup6, E_dTup7, E_dTup8, E_dTup9, E_dTup10, E_dTup11, E_dTup12, E_dLst0, E_dLst1, E_dLst2, E_dLst3, E_dLst4, E_dLst5, E_dLst6, E_dLst7, E_dLst8, E_dLst9, E_dLst10, E_dLst11, E_dLst12, E_gcd, E_isNnon, E_notN, E_isB, E_notB, E_ixL, E_ixT, E_at0, E_at1, E_at2, E_at3, E_at4, E_at5, E_isi_int_N, E_isi_int_B, E_isi_int_I, E_isi_int_S, E_isi_int_T, E_isi_int_L, E_isi_int_C, E_isi_bool_N, E_isi_bool_B, E_isi_bool_I, E_isi_bool_S, E_isi_bool_T, E_isi_bool_L, E_isi_bool_C, E_isi_str_N, E_isi_str_B, E_isi_str_I, E_isi_str_S, E_isi_str_T, E_isi_str_L, E_isi_str_C, E_isi_list_N, E_isi_list_B, E_isi_list_I, E_isi_list_S, E_isi_list_T, E_isi_list_L, E_isi_list_C, E_isi_tuple_N, E_isi_tuple_B, E_isi_tuple_I, E_isi_tuple_S, E_isi_tuple_T, E_isi_tuple_L, E_isi_tuple_C, E_isi2_N, E_isi2_B, E_isi2_I, E_isi2_S, E_isi2_T, E_isi2_L, E_isi2_C, E_isN_B, E_notN_B, E_isN_I, E_notN_I, E_isN_S, E_notN_S, E_isN_T, E_notN_T, E_isN_L, E_notN_L, E_isN_C, E_notN_C, E_isa1, E_isa2, E_lk1, E_xf, E_fam, E_mul, E_fdiv, E_ixN, E_decT, E_decF, List.getElem?_cons_zero, List.getElem?_cons_succ, List.set_cons_zero, List.set_cons_succ, List.length_cons, List.length_nil, List.length_map, List.append_nil, List.cons_append, List.nil_append, entry, List.map_cons, List.map_nil, List.replicate_succ, List.replicate_zero, Nat.reduceAdd, Nat.reduceSub, Nat.reduceLT, Nat.reduceLeDiff, Nat.reduceEqDiff, Nat.zero_add, ↓reduceIte, decide_true, decide_false, Bool.not_true, Bool.not_false, eq_self, ne_eq, not_true_eq_false, not_false_eq_true, Int.reduceEq, Int.reduceToNat, Int.toNat_natCast, Int.reduceNe, Int.reduceLT, Int.reduceLE, Int.reduceNeg, Nat.reduceLeDiff, if_true, if_false, decide_not, Bool.true_and, Bool.and_true, Bool.false_and, Bool.and_false, Bool.not_not, reduceCtorEq, mul14] <;> rfl)
theorem pl_cmp (ha : Bd 1400 a) (hb : Bd 1400 b) (hc : Bd 1400 c) (hd : Bd 1400 d) : f_compare_ratios [R2 a b, R2 c d] = .ok (.int (if a * d < c * b then -1 else if c * b < a * d then 1 else 0)) := by
  unfold f_compare_ratios
  by_cases h1 : a * d < c * b
  · rw [if_pos h1]
    unfold m_compare_ratios
    (simp (disch := first | omega | assumption | (simp only [List.length_cons, List.length_nil, List.length_map, List.length_append, List.length_set]; omega)) only [E_c, E_var, E_own, E_bin, E_bin1, E_bin1x, E_bin2, E_bin2x, E_opt, E_un, E_un1, E_un1x, E_nil, E_cons, E_cons1, E_cons1x, E_cons2, E_cons2x, E_aF, E_tB, E_fB, E_fBx, E_tT, E_fT, E_fTx, E_selt, E_self, E_if, E_ifx, E_rOk, E_tAnd, E_tOr, E_tNot, E_fNotR, E_fNotRx, E_and, E_and1, E_and1x, E_or, E_or1, E_or1x, E_not, E_not1, E_not1x, E_eIf, E_selT, E_call, E_call1, E_call1x, E_to, E_tox, E_callN, E_callN1, E_toN, E_callH, E_ifOwn, E_callH1, E_callH2, E_toH, E_ixO, E_ixO1, E_ixO2, E_move, E_move1, E_ownA, E_ownA1, E_ownV, E_varV, E_seq, E_then, E_thenr, E_thenx, E_thenb, E_thenc, E_seqN, E_thenN, E_next, E_brk, E_ct, E_expr, E_expr1, E_expr1x, E_set, E_set1, E_set1x, E_ret, E_ret1, E_ret1x, E_retN, E_ifS, E_ifS1, E_ifS1x, E_asg, E_asg1, E_asg1x, E_asg2, E_nm, E_nilG, E_consG, E_obind, E_tupG2, E_tupG3, E_tupG4, E_par, E_par1, E_app, E_ifOwnS, E_app1, E_app1x, E_app20, E_app2, E_setIx, E_SI1, E_SI2, E_SI3, E_SI4, E_for, E_for1, E_for1x, E_items, E_items1, E_itL, E_itS, E_itT, E_rng1, E_rng11, E_rng2, E_rng21, E_lc, E_lc1, E_lc1x, E_lc2, E_runF, E_runr, E_runn, E_runx, E_runN, E_runNr, E_runH, E_runHr, E_runHn, E_runH2, E_raise1, E_R1, E_raise2, E_R2, E_R22, E_raise0, E_try, E_try1, E_tryr, E_tryx, E_try2, E_try2f, E_beh, E_behr, E_behb, E_behc, E_sl, E_sl1, E_sl2, E_sl3, E_sl3t, E_oN, E_oS, E_oS1, E_ch, E_ch1, E_ch2, E_ch3t, E_ch3f, E_ch4, E_enum, E_enum1, E_zip, E_zip1, E_zip1t, E_add, E_sub, E_neg, E_lt, E_le, E_gt, E_ge, E_eq, E_ne, E_mod, E_trI, E_trB, E_trN, E_trL, E_trT, E_lenL, E_lenT, E_lenS, E_listS, E_intB, E_intI, E_abs, E_listL, E_listT, E_tupleL, E_tupleT, E_dTup0, E_dTup1, E_dTup2, E_dTup3, E_dTup4, E_dTup5, E_dTup6, E_dTup7, E_dTup8, E_dTup9, E_dTup10, E_dTup11, E_dTup12, E_dLst0, E_dLst1, E_dLst2, E_dLst3, E_dLst4, E_dLst5, E_dLst6, E_dLst7, E_dLst8, E_dLst9, E_dLst10, E_dLst11, E_dLst12, E_gcd, E_isNnon, E_notN, E_isB, E_notB, E_ixL, E_ixT, E_at0, E_at1, E_at2, E_at3, E_at4, E_at5, E_isi_int_N, E_isi_int_B, E_isi_int_I, E_isi_int_S, E_isi_int_T, E_isi_int_L, E_isi_int_C, E_isi_bool_N, E_isi_bool_B, E_isi_bool_I, E_isi_bool_S, E_isi_bool_T, E_isi_bool_L, E_isi_bool_C, E_isi_str_N, E_isi_str_B, E_isi_str_I, E_isi_str_S, E_isi_str_T, E_isi_str_L, E_isi_str_C, E_isi_list_N, E_isi_list_B, E_isi_list_I, E_isi_list_S, E_isi_list_T, E_isi_list_L, E_isi_list_C, E_isi_tuple_N, E_isi_tuple_B, E_isi_tuple_I, E_isi_tuple_S, E_isi_tuple_T, E_isi_tuple_L, E_isi_tuple_C, E_isi2_N, E_isi2_B, E_isi2_I, E_isi2_S, E_isi2_T, E_isi2_L, E_isi2_C, E_isN_B, E_notN_B, E_isN_I, E_notN_I, E_isN_S, E_notN_S, E_isN_T, E_notN_T, E_isN_L, E_notN_L, E_isN_C, E_notN_C, E_isa1, E_isa2, E_lk1, E_xf, E_fam, E_mul, E_fdiv, E_ixN, E_decT, E_decF, List.getElem?_cons_zero, List.getElem?_cons_succ, List.set_cons_zero, List.set_cons_succ, List.length_cons, List.length_nil, List.length_map, List.append_nil, List.cons_append, List.nil_append, entry, List.map_cons, List.map_nil, List.replicate_succ, List.replicate_zero, Nat.reduceAdd, Nat.reduceSub, Nat.reduceLT, Nat.reduceLeDiff, Nat.reduceEqDiff, Nat.zero_add, ↓reduceIte, decide_true, decide_false, Bool.not_true, Bool.not_false, eq_self, ne_eq, not_true_eq_false, not_false_eq_true, Int.reduceEq, Int.reduceToNat, Int.toNat_natCast, Int.reduceNe, Int.reduceLT, Int.reduceLE, Int.reduceNeg, Nat.reduceLeDiff, if_true, if_false, decide_not, Bool.true_and, Bool.and_true, Bool.false_and, Bool.and_false, Bool.not_not, reduceCtorEq, mul14] <;> rfl)
  · rw [if_neg h1]
    by_cases h2 : c * b < a * d
    · rw [if_pos h2]
      unfold m_compare_ratios
      (simp (disch := first | omega | assumption | (simp only [List.length_cons, List.length_nil, List.length_map, List.length_append, List.length_set]; omega)) only [E_c, E_var, E_own, E_bin, E_bin1, E_bin1x, E_bin2, E_bin2x, E_opt, E_un, E_un1, E_un1x, E_nil, E_cons, E_cons1, E_cons1x, E_cons2, E_cons2x, E_aF, E_tB, E_fB, E_fBx, E_tT, E_fT, E_fTx, E_selt, E_self, E_if, E_ifx, E_rOk, E_tAnd, E_tOr, E_tNot, E_fNotR, E_fNotRx, E_and, E_and1, E_and1x, E_or, E_or1, E_or1x, E_not, E_not1, E_not1x, E_eIf, E_selT, E_call, E_call1, E_call1x, E_to, E_tox, E_callN, E_callN1, E_toN, E_callH, E_ifOwn, E_callH1, E_callH2, E_toH, E_ixO, E_ixO1, E_ixO2, E_move, E_move1, E_ownA, E_ownA1, E_ownV, E_varV, E_seq, E_then, E_thenr, E_thenx, E_thenb, E_thenc, E_seqN, E_thenN, E_next, E_brk, E_ct, E_expr, E_expr1, E_expr1x, E_set, E_set1, E_set1x, E_ret, E_ret1, E_ret1x, E_retN, E_ifS, E_ifS1, E_ifS1x, E_asg, E_asg1, E_asg1x, E_asg2, E_nm, E_nilG, E_consG, E_obind, E_tupG2, E_tupG3, E_tupG4, E_par, E_par1, E_app, E_ifOwnS, E_app1, E_app1x, E_app20, E_app2, E_setIx, E_SI1, E_SI2, E_SI3, E_SI4, E_for, E_for1, E_for1x, E_items, E_items1, E_itL, E_itS, E_itT, E_rng1, E_rng11, E_rng2, E_rng21, E_lc, E_lc1, E_lc1x, E_lc2, E_runF, E_runr, E_runn, E_runx, E_runN, E_runNr, E_runH, E_runHr, E_runHn, E_runH2, E_raise1, E_R1, E_raise2, E_R2, E_R22, E_raise0, E_try, E_try1, E_tryr, E_tryx, E_try2, E_try2f, E_beh, E_behr, E_behb, E_behc, E_sl, E_sl1, E_sl2, E_sl3, E_sl3t, E_oN, E_oS, E_oS1, E_ch, E_ch1, E_ch2, E_ch3t, E_ch3f, E_ch4, E_enum, E_enum1, E_zip, E_zip1, E_zip1t, E_add, E_sub, E_neg, E_lt, E_le, E_gt, E_ge, E_eq, E_ne, E_mod, E_trI, E_trB, E_trN, E_trL, E_trT, E_lenL, E_lenT, E_lenS, E_listS, E_intB, E_intI, E_abs, E_listL, E_listT, E_tupleL, E_tupleT, E_dTup0, E_dTup1, E_dTup2, E_dTup3, E_dTup4, E_dTup5, E_dTup6, E_dTup7, E_dTup8, E_dTup9, E_dTup10, E_dTup11, E_dTup12, E_dLst0, E_dLst1, E_dLst2, E_dLst3, E_dLst4, E_dLst5, E_dLst6, E_dLst7, E_dLst8, E_dLst9, E_dLst10, E_dLst11, E_dLst12, E_gcd, E_isNnon, E_notN, E_isB, E_notB, E_ixL, E_ixT, E_at0, E_at1, E_at2, E_at3, E_at4, E_at5, E_isi_int_N, E_isi_int_B, E_isi_int_I, E_isi_int_S, E_isi_int_T, E_isi_int_L, E_isi_int_C, E_isi_bool_N, E_isi_bool_B, E_isi_bool_I, E_isi_bool_S, E_isi_bool_T, E_isi_bool_L, E_isi_bool_C, E_isi_str_N, E_isi_str_B, E_isi_str_I, E_isi_str_S, E_isi_str_T, E_isi_str_L, E_isi_str_C, E_isi_list_N, E_isi_list_B, E_isi_list_I, E_isi_list_S, E_isi_list_T, E_isi_list_L, E_isi_list_C, E_isi_tuple_N, E_isi_tuple_B, E_isi_tuple_I, E_isi_tuple_S, E_isi_tuple_T, E_isi_tuple_L, E_isi_tuple_C, E_isi2_N, E_isi2_B, E_isi2_I, E_isi2_S, E_isi2_T, E_isi2_L, E_isi2_C, E_isN_B, E_notN_B, E_isN_I, E_notN_I, E_isN_S, E_notN_S, E_isN_T, E_notN_T, E_isN_L, E_notN_L, E_isN_C, E_notN_C, E_isa1, E_isa2, E_lk1, E_xf, E_fam, E_mul, E_fdiv, E_ixN, E_decT, E_decF, List.getElem?_cons_zero, List.getElem?_cons_succ, List.set_cons_zero, List.set_cons_succ, List.length_cons, List.length_nil, List.length_map, List.append_nil, List.cons_append, List.nil_append, entry, List.map_cons, List.map_nil, List.replicate_succ, List.replicate_zero, Nat.reduceAdd, Nat.reduceSub, Nat.reduceLT, Nat.reduceLeDiff, Nat.reduceEqDiff, Nat.zero_add, ↓reduceIte, decide_true, decide_false, Bool.not_true, Bool.not_false, eq_self, ne_eq, not_true_eq_false, not_false_eq_true, Int.reduceEq, Int.reduceToNat, Int.toNat_natCast, Int.reduceNe, Int.reduceLT, Int.reduceLE, Int.reduceNeg, Nat.reduceLeDiff, if_true, if_false, decide_not, Bool.true_and, Bool.and_true, Bool.false_and, Bool.and_false, Bool.not_not, reduceCtorEq, mul14] <;> rfl)
    · rw [if_neg h2]
      unfold m_compare_ratios
      (simp (disch := first | omega | assumption | (simp only [List.length_cons, List.length_nil, List.length_map, List.length_append, List.length_set]; omega)) only [E_c, E_var, E_own, E_bin, E_bin1, E_bin1x, E_bin2, E_bin2x, E_opt, E_un, E_un1, E_un1x, E_nil, E_cons, E_cons1, E_cons1x, E_cons2, E_cons2x, E_aF, E_tB, E_fB, E_fBx, E_tT, E_fT, E_fTx, E_selt, E_self, E_if, E_ifx, E_rOk, E_tAnd, E_tOr, E_tNot, E_fNotR, E_fNotRx, E_and, E_and1, E_and1x, E_or, E_or1, E_or1x, E_not, E_not1, E_not1x, E_eIf, E_selT, E_call, E_call1, E_call1x, E_to, E_tox, E_callN, E_callN1, E_toN, E_callH, E_ifOwn, E_callH1, E_callH2, E_toH, E_ixO, E_ixO1, E_ixO2, E_move, E_move1, E_ownA, E_ownA1, E_ownV, E_varV, E_seq, E_then, E_thenr, E_thenx, E_thenb, E_thenc, E_seqN, E_thenN, E_next, E_brk, E_ct, E_expr, E_expr1, E_expr1x, E_set, E_set1, E_set1x, E_ret, E_ret1, E_ret1x, E_retN, E_ifS, E_ifS1, E_ifS1x, E_asg, E_asg1, E_asg1x, E_asg2, E_nm, E_nilG, E_consG, E_obind, E_tupG2, E_tupG3, E_tupG4, E_par, E_par1, E_app, E_ifOwnS, E_app1, E_app1x, E_app20, E_app2, E_setIx, E_SI1, E_SI2, E_SI3, E_SI4, E_for, E_for1, E_for1x, E_items, E_items1, E_itL, E_itS, E_itT, E_rng1, E_rng11, E_rng2, E_rng21, E_lc, E_lc1, E_lc1x, E_lc2, E_runF, E_runr, E_runn, E_runx, E_runN, E_runNr, E_runH, E_runHr, E_runHn, E_runH2, E_raise1, E_R1, E_raise2, E_R2, E_R22, E_raise0, E_try, E_try1, E_tryr, E_tryx, E_try2, E_try2f, E_beh, E_behr, E_behb, E_behc, E_sl, E_sl1, E_sl2, E_sl3, E_sl3t, E_oN, E_oS, E_oS1, E_ch, E_ch1, E_ch2, E_ch3t, E_ch3f, E_ch4, E_enum, E_enum1, E_zip, E_zip1, E_zip1t, E_add, E_sub, E_neg, E_lt, E_le, E_gt, E_ge, E_eq, E_ne, E_mod, E_trI, E_trB, E_trN, E_trL, E_trT, E_lenL, E_lenT, E_lenS, E_listS, E_intB, E_intI, E_abs, E_listL, E_listT, E_tupleL, E_tupleT, E_dTup0, E_dTup1, E_dTup2, E_dTup3, E_dTup4, E_dTup5, E_dTup6, E_dTup7, E_dTup8, E_dTup9, E_dTup10, E_dTup11, E_dTup12, E_dLst0, E_dLst1, E_dLst2, E_dLst3, E_dLst4, E_dLst5, E_dLst6, E_dLst7, E_dLst8, E_dLst9, E_dLst10, E_dLst11, E_dLst12, E_gcd, E_isNnon, E_notN, E_isB, E_notB, E_ixL, E_ixT, E_at0, E_at1, E_at2, E_at3, E_at4, E_at5, E_isi_int_N, E_isi_int_B, E_isi_int_I, E_isi_int_S, E_isi_int_T, E_isi_int_L, E_isi_int_C, E_isi_bool_N, E_isi_bool_B, E_isi_bool_I, E_isi_bool_S, E_isi_bool_T, E_isi_bool_L, E_isi_bool_C, E_isi_str_N, E_isi_str_B, E_isi_str_I, E_isi_str_S, E_isi_str_T, E_isi_str_L, E_isi_str_C, E_isi_list_N, E_isi_list_B, E_isi_list_I, E_isi_list_S, E_isi_list_T, E_isi_list_L, E_isi_list_C, E_isi_tuple_N, E_isi_tuple_B, E_isi_tuple_I, E_isi_tuple_S, E_isi_tuple_T, E_isi_tuple_L, E_isi_tuple_C, E_isi2_N, E_isi2_B, E_isi2_I, E_isi2_S, E_isi2_T, E_isi2_L, E_isi2_C, E_isN_B, E_notN_B, E_isN_I, E_notN_I, E_isN_S, E_notN_S, E_isN_T, E_notN_T, E_isN_L, E_notN_L, E_isN_C, E_notN_C, E_isa1, E_isa2, E_lk1, E_xf, E_fam, E_mul, E_fdiv, E_ixN, E_decT, E_decF, List.getElem?_cons_zero, List.getElem?_cons_succ, List.set_cons_zero, List.set_cons_succ, List.length_cons, List.length_nil, List.length_map, List.append_nil, List.cons_append, List.nil_append, entry, List.map_cons, List.map_nil, List.replicate_succ, List.replicate_zero, Nat.reduceAdd, Nat.reduceSub, Nat.reduceLT, Nat.reduceLeDiff, Nat.reduceEqDiff, Nat.zero_add, ↓reduceIte, decide_true, decide_false, Bool.not_true, Bool.not_false, eq_self, ne_eq, not_true_eq_false, not_false_eq_true, Int.reduceEq, Int.reduceToNat, Int.toNat_natCast, Int.reduceNe, Int.reduceLT, Int.reduceLE, Int.reduceNeg, Nat.reduceLeDiff, if_true, if_false, decide_not, Bool.true_and, Bool.and_true, Bool.false_and, Bool.and_false, Bool.not_not, reduceCtorEq, mul14] <;> rfl)
theorem pl_floor (hb : Bd 1400 b) (b0 : b ≠ 0) : f_floor_ratio [R2 a b] = .ok (.int (a.fdiv b)) := by
  unfold f_floor_ratio m_floor_ratio
  (simp (disch := first | omega | assumption | (simp only [List.length_cons, List.length_nil, List.length_map, List.length_append, List.length_set]; omega)) only [E_c, E_var, E_own, E_bin, E_bin1, E_bin1x, E_bin2, E_bin2x, E_opt, E_un, E_un1, E_un1x, E_nil, E_cons, E_cons1, E_cons1x, E_cons2, E_cons2x, E_aF, E_tB, E_fB, E_fBx, E_tT, E_fT, E_fTx, E_selt, E_self, E_if, E_ifx, E_rOk, E_tAnd, E_tOr, E_tNot, E_fNotR, E_fNotRx, E_and, E_and1, E_and1x, E_or, E_or1, E_or1x, E_not, E_not1, E_not1x, E_eIf, E_selT, E_call, E_call1, E_call1x, E_to, E_tox, E_callN, E_callN1, E_toN, E_callH, E_ifOwn, E_callH1, E_callH2, E_toH, E_ixO, E_ixO1, E_ixO2, E_move, E_move1, E_ownA, E_ownA1, E_ownV, E_varV, E_seq, E_then, E_thenr, E_thenx, E_thenb, E_thenc, E_seqN, E_thenN, E_next, E_brk, E_ct, E_expr, E_expr1, E_expr1x, E_set, E_set1, E_set1x, E_ret, E_ret1, E_ret1x, E_retN, E_ifS, E_ifS1, E_ifS1x, E_asg, E_asg1, E_asg1x, E_asg2, E_nm, E_nilG, E_consG, E_obind, E_tupG2, E_tupG3, E_tupG4, E_par, E_par1, E_app, E_ifOwnS, E_app1, E_app1x, E_app20, E_app2, E_setIx, E_SI1, E_SI2, E_SI3, E_SI4, E_for, E_for1, E_for1x, E_items, E_items1, E_itL, E_itS, E_itT, E_rng1, E_rng11, E_rng2, E_rng21, E_lc, E_lc1, E_lc1x, E_lc2, E_runF, E_runr, E_runn, E_runx, E_runN, E_runNr, E_runH, E_runHr, E_runHn, E_runH2, E_raise1, E_R1, E_raise2, E_R2, E_R22, E_raise0, E_try, E_try1, E_tryr, E_tryx, E_try2, E_try2f, E_beh, E_behr, E_behb, E_behc, E_sl, E_sl1, E_sl2, E_sl3, E_sl3t, E_oN, E_oS, E_oS1, E_ch, E_ch1, E_ch2, E_ch3t, E_ch3f, E_ch4, E_enum, E_enum1, E_zip, E_zip1, E_zip1t, E_add, E_sub, E_neg, E_lt, E_le, E_gt, E_ge, E_eq, E_ne, E_mod, E_trI, E_trB, E_trN, E_trL, E_trT, E_lenL, E_lenT, E_lenS, E_listS, E_intB, E_intI, E_abs, E_listL, E_listT, E_tupleL, E_tupleT, E_dTup0, E_dTup1, E_dTup2, E_dTup3, E_dTup4, E_dTup5, E_dTup6, E_dTup7, E_dTup8, E_dTup9, E_dTup10, E_dTup11, E_dTup12, E_dLst0, E_dLst1, E_dLst2, E_dLst3, E_dLst4, E_dLst5, E_dLst6, E_dLst7, E_dLst8, E_dLst9, E_dLst10, E_dLst11, E_dLst12, E_gcd, E_isNnon, E_notN, E_isB, E_notB, E_ixL, E_ixT, E_at0, E_at1, E_at2, E_at3, E_at4, E_at5, E_isi_int_N, E_isi_int_B, E_isi_int_I, E_isi_int_S, E_isi_int_T, E_isi_int_L, E_isi_int_C, E_isi_bool_N, E_isi_bool_B, E_isi_bool_I, E_isi_bool_S, E_isi_bool_T, E_isi_bool_L, E_isi_bool_C, E_isi_str_N, E_isi_str_B, E_isi_str_I, E_isi_str_S, E_isi_str_T, E_isi_str_L, E_isi_str_C, E_isi_list_N, E_isi_list_B, E_isi_list_I, E_isi_list_S, E_isi_list_T, E_isi_list_L, E_isi_list_C, E_isi_tuple_N, E_isi_tuple_B, E_isi_tuple_I, E_isi_tuple_S, E_isi_tuple_T, E_isi_tuple_L, E_isi_tuple_C, E_isi2_N, E_isi2_B, E_isi2_I, E_isi2_S, E_isi2_T, E_isi2_L, E_isi2_C, E_isN_B, E_notN_B, E_isN_I, E_notN_I, E_isN_S, E_notN_S, E_isN_T, E_notN_T, E_isN_L, E_notN_L, E_isN_C, E_notN_C, E_isa1, E_isa2, E_lk1, E_xf, E_fam, E_mul, E_fdiv, E_ixN, E_decT, E_decF, List.getElem?_cons_zero, List.getElem?_cons_succ, List.set_cons_zero, List.set_cons_succ, List.length_cons, List.length_nil, List.length_map, List.append_nil, List.cons_append, List.nil_append, entry, List.map_cons, List.map_nil, List.replicate_succ, List.replicate_zero, Nat.reduceAdd, Nat.reduceSub, Nat.reduceLT, Nat.reduceLeDiff, Nat.reduceEqDiff, Nat.zero_add, ↓reduceIte, decide_true, decide_false, Bool.not_true, Bool.not_false, eq_self, ne_eq, not_true_eq_false, not_false_eq_true, Int.reduceEq, Int.reduceToNat, Int.toNat_natCast, Int.reduceNe, Int.reduceLT, Int.reduceLE, Int.reduceNeg, Nat.reduceLeDiff, if_true, if_false, decide_not, Bool.true_and, Bool.and_true, Bool.false_and, Bool.and_false, Bool.not_not, reduceCtorEq, dFdiv_of hb (by decide) b0] <;> rfl)
theorem pl_same : f__law_same [R2 a b, R2 a b] = .ok (.bl true) := by
  have e : f__law_int [.int a] = .ok (.bl true) := rfl
  have e2 : f__law_int [.int b] = .ok (.bl true) := rfl
  have e3 : dEq (R2 a b) (R2 a b) = some (.bl true) := by rw [dEq_tup2]; simp
  unfold f__law_same m__law_same
  (simp (disch := first | omega | assumption | (simp only [List.length_cons, List.length_nil, List.length_map, List.length_append, List.length_set]; omega)) only [E_c, E_var, E_own, E_bin, E_bin1, E_bin1x, E_bin2, E_bin2x, E_opt, E_un, E_un1, E_un1x, E_nil, E_cons, E_cons1, E_cons1x, E_cons2, E_cons2x, E_aF, E_tB, E_fB, E_fBx, E_tT, E_fT, E_fTx, E_selt, E_self, E_if, E_ifx, E_rOk, E_tAnd, E_tOr, E_tNot, E_fNotR, E_fNotRx, E_and, E_and1, E_and1x, E_or, E_or1, E_or1x, E_not, E_not1, E_not1x, E_eIf, E_selT, E_call, E_call1, E_call1x, E_to, E_tox, E_callN, E_callN1, E_toN, E_callH, E_ifOwn, E_callH1, E_callH2, E_toH, E_ixO, E_ixO1, E_ixO2, E_move, E_move1, E_ownA, E_ownA1, E_ownV, E_varV, E_seq, E_then, E_thenr, E_thenx, E_thenb, E_thenc, E_seqN, E_thenN, E_next, E_brk, E_ct, E_expr, E_expr1, E_expr1x, E_set, E_set1, E_set1x, E_ret, E_ret1, E_ret1x, E_retN, E_ifS, E_ifS1, E_ifS1x, E_asg, E_asg1, E_asg1x, E_asg2, E_nm, E_nilG, E_consG, E_obind, E_tupG2, E_tupG3, E_tupG4, E_par, E_par1, E_app, E_ifOwnS, E_app1, E_app1x, E_app20, E_app2, E_setIx, E_SI1, E_SI2, E_SI3, E_SI4, E_for, E_for1, E_for1x, E_items, E_items1, E_itL, E_itS, E_itT, E_rng1, E_rng11, E_rng2, E_rng21, E_lc, E_lc1, E_lc1x, E_lc2, E_runF, E_runr, E_runn, E_runx, E_runN, E_runNr, E_runH, E_runHr, E_runHn, E_runH2, E_raise1, E_R1, E_raise2, E_R2, E_R22, E_raise0, E_try, E_try1, E_tryr, E_tryx, E_try2, E_try2f, E_beh, E_behr, E_behb, E_behc, E_sl, E_sl1, E_sl2, E_sl3, E_sl3t, E_oN, E_oS, E_oS1, E_ch, E_ch1, E_ch2, E_ch3t, E_ch3f, E_ch4, E_enum, E_enum1, E_zip, E_zip1, E_zip1t, E_add, E_sub, E_neg, E_lt, E_le, E_gt, E_ge, E_eq, E_ne, E_mod, E_trI, E_trB, E_trN, E_trL, E_trT, E_lenL, E_lenT, E_lenS, E_listS, E_intB, E_intI, E_abs, E_listL, E_listT, E_tupleL, E_tupleT, E_dTup0, E_dTup1, E_dTup2, E_dTup3, E_dTup4, E_dTup5, E_dTup6, E_dTup7, E_dTup8, E_dTup9, E_dTup10, E_dTup11, E_dTup12, E_dLst0, E_dLst1, E_dLst2, E_dLst3, E_dLst4, E_dLst5, E_dLst6, E_dLst7, E_dLst8, E_dLst9, E_dLst10, E_dLst11, E_dLst12, E_gcd, E_isNnon, E_notN, E_isB, E_notB, E_ixL, E_ixT, E_at0, E_at1, E_at2, E_at3, E_at4, E_at5, E_isi_int_N, E_isi_int_B, E_isi_int_I, E_isi_int_S, E_isi_int_T, E_isi_int_L, E_isi_int_C, E_isi_bool_N, E_isi_bool_B, E_isi_bool_I, E_isi_bool_S, E_isi_bool_T, E_isi_bool_L, E_isi_bool_C, E_isi_str_N, E_isi_str_B, E_isi_str_I, E_isi_str_S, E_isi_str_T, E_isi_str_L, E_isi_str_C, E_isi_list_N, E_isi_list_B, E_isi_list_I, E_isi_list_S, E_isi_list_T, E_isi_list_L, E_isi_list_C, E_isi_tuple_N, E_isi_tuple_B, E_isi_tuple_I, E_isi_tuple_S, E_isi_tuple_T, E_isi_tuple_L, E_isi_tuple_C, E_isi2_N, E_isi2_B, E_isi2_I, E_isi2_S, E_isi2_T, E_isi2_L, E_isi2_C, E_isN_B, E_notN_B, E_isN_I, E_notN_I, E_isN_S, E_notN_S, E_isN_T, E_notN_T, E_isN_L, E_notN_L, E_isN_C, E_notN_C, E_isa1, E_isa2, E_lk1, E_xf, E_fam, E_mul, E_fdiv, E_ixN, E_decT, E_decF, List.getElem?_cons_zero, List.getElem?_cons_succ, List.set_cons_zero, List.set_cons_succ, List.length_cons, List.length_nil, List.length_map, List.append_nil, List.cons_append, List.nil_append, entry, List.map_cons, List.map_nil, List.replicate_succ, List.replicate_zero, Nat.reduceAdd, Nat.reduceSub, Nat.reduceLT, Nat.reduceLeDiff, Nat.reduceEqDiff, Nat.zero_add, ↓reduceIte, decide_true, decide_false, Bool.not_true, Bool.not_false, eq_self, ne_eq, not_true_eq_false, not_false_eq_true, Int.reduceEq, Int.reduceToNat, Int.toNat_natCast, Int.reduceNe, Int.reduceLT, Int.reduceLE, Int.reduceNeg, Nat.reduceLeDiff, if_true, if_false, decide_not, Bool.true_and, Bool.and_true, Bool.false_and, Bool.and_false, Bool.not_not, reduceCtorEq, e, e2, e3] <;> rfl)
end
end Law

set_option Elab.async false
set_option linter.all false
set_option maxRecDepth 100000
set_option maxHeartbeats 2000000
noncomputable section
namespace Law
open PySem L2 Py
theorem bd_of {k : Nat} {a : Int} {N : Nat} (h1 : -(N : Int) < a) (h2 : a < N) (hN : N ≤ 2 ^ k) : Bd k a := by
  unfold Bd
  exact Nat.lt_of_lt_of_le (by omega) hN
theorem six {x : Int} (h0 : 0 ≤ x) (h1 : x < 6) : x = 0 ∨ x = 1 ∨ x = 2 ∨ x = 3 ∨ x = 4 ∨ x = 5 := by omega
theorem four {x : Int} (h0 : 0 ≤ x) (h1 : x < 4) : x = 0 ∨ x = 1 ∨ x = 2 ∨ x = 3 := by omega
theorem pl_sized {l : List D} (g : Good l) : ∃ x l', f__law_sized l [] = .ok (.int x, l') ∧ Bd 140 x ∧ Good l' := by
  obtain ⟨i, l1, e1, i0, i1, g1⟩ := pl_take g (many := 6) (by decide) (bd_of (N := 7) (by omega) (by omega) (by decide))
  have e6 : dPow (.int 10) (.int 6) = some (.int 1000000) := rfl
  have e40 : dPow (.int 10) (.int 40) = some (.int 10000000000000000000000000000000000000000) := rfl
  obtain ⟨size, hs, s0, s1⟩ : ∃ size, dIx (.tup [.int 4, .int 12, .int 1000, .int 1000000, .int 10000000000000000000000000000000000000000, .int 3]) (.int i) = some (.int size) ∧ 1 ≤ size ∧ size ≤ 10000000000000000000000000000000000000000 := by
    rcases six i0 i1 with rfl | rfl | rfl | rfl | rfl | rfl
    · exact ⟨4, rfl, by omega, by omega⟩
    · exact ⟨12, rfl, by omega, by omega⟩
    · exact ⟨1000, rfl, by omega, by omega⟩
    · exact ⟨1000000, rfl, by omega, by omega⟩
    · exact ⟨_, rfl, by omega, by omega⟩
    · exact ⟨3, rfl, by omega, by omega⟩
  have hb : Bd 134 size := bd_of (N := 10000000000000000000000000000000000000001) (by omega) (by omega) (by decide)
  have hm : Bd 135 (2 * size + 1) := bd_of (N := 20000000000000000000000000000000000000002) (by omega) (by omega) (by decide)
  obtain ⟨y, l2, e2, y0, y1, g2⟩ := pl_take g1 (many := 2 * size + 1) (by omega) (hm.mono (by decide))
  refine ⟨y - size, l2, ?_, bd_of (N := 20000000000000000000000000000000000000002) (by omega) (by omega) (by decide), g2⟩
  have em : dMul (.int 2) (.int size) = some (.int (2 * size)) := dMul_of (j := 64) (k := 134) (bd64 (by decide) (by decide)) hb (by decide)
  unfold f__law_sized m__law_sized
  (simp (disch := first | omega | assumption | (simp only [List.length_cons, List.length_nil, List.length_map, List.length_append, List.length_set]; omega)) only [E_c, E_var, E_own, E_bin, E_bin1, E_bin1x, E_bin2, E_bin2x, E_opt, E_un, E_un1, E_un1x, E_nil, E_cons, E_cons1, E_cons1x, E_cons2, E_cons2x, E_aF, E_tB, E_fB, E_fBx, E_tT, E_fT, E_fTx, E_selt, E_self, E_if, E_ifx, E_rOk, E_tAnd, E_tOr, E_tNot, E_fNotR, E_fNotRx, E_and, E_and1, E_and1x, E_or, E_or1, E_or1x, E_not, E_not1, E_not1x, E_eIf, E_selT, E_call, E_call1, E_call1x, E_to, E_tox, E_callN, E_callN1, E_toN, E_callH, E_ifOwn, E_callH1, E_callH2, E_toH, E_ixO, E_ixO1, E_ixO2, E_move, E_move1, E_ownA, E_ownA1, E_ownV, E_varV, E_seq, E_then, E_thenr, E_thenx, E_thenb, E_thenc, E_seqN, E_thenN, E_next, E_brk, E_ct, E_expr, E_expr1, E_expr1x, E_set, E_set1, E_set1x, E_ret, E_ret1, E_ret1x, E_retN, E_ifS, E_ifS1, E_ifS1x, E_asg, E_asg1, E_asg1x, E_asg2, E_nm, E_nilG, E_consG, E_obind, E_tupG2, E_tupG3, E_tupG4, E_par, E_par1, E_app, E_ifOwnS, E_app1, E_app1x, E_app20, E_app2, E_setIx, E_SI1, E_SI2, E_SI3, E_SI4, E_for, E_for1, E_for1x, E_items, E_items1, E_itL, E_itS, E_itT, E_rng1, E_rng11, E_rng2, E_rng21, E_lc, E_lc1, E_lc1x, E_lc2, E_runF, E_runr, E_runn, E_runx, E_runN, E_runNr, E_runH, E_runHr, E_runHn, E_runH2, E_raise1, E_R1, E_raise2, E_R2, E_R22, E_raise0, E_try, E_try1, E_tryr, E_tryx, E_try2, E_try2f, E_beh, E_behr, E_behb, E_behc, E_sl, E_sl1, E_sl2, E_sl3, E_sl3t, E_oN, E_oS, E_oS1, E_ch, E_ch1, E_ch2, E_ch3t, E_ch3f, E_ch4, E_enum, E_enum1, E_zip, E_zip1, E_zip1t, E_add, E_sub, E_neg, E_lt, E_le, E_gt, E_ge, E_eq, E_ne, E_mod, E_trI, E_trB, E_trN, E_trL, E_trT, E_lenL, E_lenT, E_lenS, E_listS, E_intB, E_intI, E_abs, E_listL, E_listT, E_tupleL, E_tupleT, E_dTup0, E_dTup1, E_dTup2, E_dTup3, E_dTup4, E_dTup5, E_dTup6, E_dTup7, E_dTup8, E_dTup9, E_dTup10, E_dTup11, E_dTup12, E_dLst0, E_dLst1, E_dLst2, E_dLst3, E_dLst4, E_dLst5, E_dLst6, E_dLst7, E_dLst8, E_dLst9, E_dLst10, E_dLst11, E_dLst12, E_gcd, E_isNnon, E_notN, E_isB, E_notB, E_ixL, E_ixT, E_at0, E_at1, E_at2, E_at3, E_at4, E_at5, E_isi_int_N, E_isi_int_B, E_isi_int_I, E_isi_int_S, E_isi_int_T, E_isi_int_L, E_isi_int_C, E_isi_bool_N, E_isi_bool_B, E_isi_bool_I, E_isi_bool_S, E_isi_bool_T, E_isi_bool_L, E_isi_bool_C, E_isi_str_N, E_isi_str_B, E_isi_str_I, E_isi_str_S, E_isi_str_T, E_isi_str_L, E_isi_str_C, E_isi_list_N, E_isi_list_B, E_isi_list_I, E_isi_list_S, E_isi_list_T, E_isi_list_L, E_isi_list_C, E_isi_tuple_N, E_isi_tuple_B, E_isi_tuple_I, E_isi_tuple_S, E_isi_tuple_T, E_isi_tuple_L, E_isi_tuple_C, E_isi2_N, E_isi2_B, E_isi2_I, E_isi2_S, E_isi2_T, E_isi2_L, E_isi2_C, E_isN_B, E_notN_B, E_isN_I, E_notN_I, E_isN_S, E_notN_S, E_isN_T, E_notN_T, E_isN_L, E_notN_L, E_isN_C, E_notN_C, E_isa1, E_isa2, E_lk1, E_xf, E_fam, E_mul, E_fdiv, E_ixN, E_decT, E_decF, List.getElem?_cons_zero, List.getElem?_cons_succ, List.set_cons_zero, List.set_cons_succ, List.length_cons, List.length_nil, List.length_map, List.append_nil, List.cons_append, List.nil_append, entry, List.map_cons, List.map_nil, List.replicate_succ, List.replicate_zero, Nat.reduceAdd, Nat.reduceSub, Nat.reduceLT, Nat.reduceLeDiff, Nat.reduceEqDiff, Nat.zero_add, ↓reduceIte, decide_true, decide_false, Bool.not_true, Bool.not_false, eq_self, ne_eq, not_true_eq_false, not_false_eq_true, Int.reduceEq, Int.reduceToNat, Int.toNat_natCast, Int.reduceNe, Int.reduceLT, Int.reduceLE, Int.reduceNeg, Nat.reduceLeDiff, if_true, if_false, decide_not, Bool.true_and, Bool.and_true, Bool.false_and, Bool.and_false, Bool.not_not, reduceCtorEq, e1, e6, e40, hs, em, e2] <;> rfl)
/-- the odd things -/
def IsOdd (d : D) : Prop := d = .non ∨ d = .str "1" ∨ d = .bl true ∨ d = .bl false ∨ d = .lst [.int 1] ∨ d = .tup [.int 1]
theorem pl_odd {l : List D} (g : Good l) : ∃ d l', f__law_odd l [] = .ok (d, l') ∧ IsOdd d ∧ Good l' := by
  obtain ⟨i, l1, e1, i0, i1, g1⟩ := pl_take g (many := 6) (by decide) (bd_of (N := 7) (by omega) (by omega) (by decide))
  obtain ⟨d, hs, ho⟩ : ∃ d, dIx (.tup [.non, .str "1", .bl true, .bl false, .lst [.int 1], .tup [.int 1]]) (.int i) = some d ∧ IsOdd d := by
    unfold IsOdd
    rcases six i0 i1 with rfl | rfl | rfl | rfl | rfl | rfl
    · exact ⟨_, rfl, by simp⟩
    · exact ⟨_, rfl, by simp⟩
    · exact ⟨_, rfl, by simp⟩
    · exact ⟨_, rfl, by simp⟩
    · exact ⟨_, rfl, by simp⟩
    · exact ⟨_, rfl, by simp⟩
  refine ⟨d, l1, ?_, ho, g1⟩
  unfold f__law_odd m__law_odd
  (simp (disch := first | omega | assumption | (simp only [List.length_cons, List.length_nil, List.length_map, List.length_append, List.length_set]; omega)) only [E_c, E_var, E_own, E_bin, E_bin1, E_bin1x, E_bin2, E_bin2x, E_opt, E_un, E_un1, E_un1x, E_nil, E_cons, E_cons1, E_cons1x, E_cons2, E_cons2x, E_aF, E_tB, E_fB, E_fBx, E_tT, E_fT, E_fTx, E_selt, E_self, E_if, E_ifx, E_rOk, E_tAnd, E_tOr, E_tNot, E_fNotR, E_fNotRx, E_and, E_and1, E_and1x, E_or, E_or1, E_or1x, E_not, E_not1, E_not1x, E_eIf, E_selT, E_call, E_call1, E_call1x, E_to, E_tox, E_callN, E_callN1, E_toN, E_callH, E_ifOwn, E_callH1, E_callH2, E_toH, E_ixO, E_ixO1, E_ixO2, E_move, E_move1, E_ownA, E_ownA1, E_ownV, E_varV, E_seq, E_then, E_thenr, E_thenx, E_thenb, E_thenc, E_seqN, E_thenN, E_next, E_brk, E_ct, E_expr, E_expr1, E_expr1x, E_set, E_set1, E_set1x, E_ret, E_ret1, E_ret1x, E_retN, E_ifS, E_ifS1, E_ifS1x, E_asg, E_asg1, E_asg1x, E_asg2, E_nm, E_nilG, E_consG, E_obind, E_tupG2, E_tupG3, E_tupG4, E_par, E_par1, E_app, E_ifOwnS, E_app1, E_app1x, E_app20, E_app2, E_setIx, E_SI1, E_SI2, E_SI3, E_SI4, E_for, E_for1, E_for1x, E_items, E_items1, E_itL, E_itS, E_itT, E_rng1, E_rng11, E_rng2, E_rng21, E_lc, E_lc1, E_lc1x, E_lc2, E_runF, E_runr, E_runn, E_runx, E_runN, E_runNr, E_runH, E_runHr, E_runHn, E_runH2, E_raise1, E_R1, E_raise2, E_R2, E_R22, E_raise0, E_try, E_try1, E_tryr, E_tryx, E_try2, E_try2f, E_beh, E_behr, E_behb, E_behc, E_sl, E_sl1, E_sl2, E_sl3, E_sl3t, E_oN, E_oS, E_oS1, E_ch, E_ch1, E_ch2, E_ch3t, E_ch3f, E_ch4, E_enum, E_enum1, E_zip, E_zip1, E_zip1t, E_add, E_sub, E_neg, E_lt, E_le, E_gt, E_ge, E_eq, E_ne, E_mod, E_trI, E_trB, E_trN, E_trL, E_trT, E_lenL, E_lenT, E_lenS, E_listS, E_intB, E_intI, E_abs, E_listL, E_listT, E_tupleL, E_tupleT, E_dTup0, E_dTup1, E_dTup2, E_dTup3, E_dTup4, E_dTup5, E_dTup6, E_dTup7, E_dTup8, E_dTup9, E_dTup10, E_dTup11, E_dTup12, E_dLst0, E_dLst1, E_dLst2, E_dLst3, E_dLst4, E_dLst5, E_dLst6, E_dLst7, E_dLst8, E_dLst9, E_dLst10, E_dLst11, E_dLst12, E_gcd, E_isNnon, E_notN, E_isB, E_notB, E_ixL, E_ixT, E_at0, E_at1, E_at2, E_at3, E_at4, E_at5, E_isi_int_N, E_isi_int_B, E_isi_int_I, E_isi_int_S, E_isi_int_T, E_isi_int_L, E_isi_int_C, E_isi_bool_N, E_isi_bool_B, E_isi_bool_I, E_isi_bool_S, E_isi_bool_T, E_isi_bool_L, E_isi_bool_C, E_isi_str_N, E_isi_str_B, E_isi_str_I, E_isi_str_S, E_isi_str_T, E_isi_str_L, E_isi_str_C, E_isi_list_N, E_isi_list_B, E_isi_list_I, E_isi_list_S, E_isi_list_T, E_isi_list_L, E_isi_list_C, E_isi_tuple_N, E_isi_tuple_B, E_isi_tuple_I, E_isi_tuple_S, E_isi_tuple_T, E_isi_tuple_L, E_isi_tuple_C, E_isi2_N, E_isi2_B, E_isi2_I, E_isi2_S, E_isi2_T, E_isi2_L, E_isi2_C, E_isN_B, E_notN_B, E_isN_I, E_notN_I, E_isN_S, E_notN_S, E_isN_T, E_notN_T, E_isN_L, E_notN_L, E_isN_C, E_notN_C, E_isa1, E_isa2, E_lk1, E_xf, E_fam, E_mul, E_fdiv, E_ixN, E_decT, E_decF, List.getElem?_cons_zero, List.getElem?_cons_succ, List.set_cons_zero, List.set_cons_succ, List.length_cons, List.length_nil, List.length_map, List.append_nil, List.cons_append, List.nil_append, entry, List.map_cons, List.map_nil, List.replicate_succ, List.replicate_zero, Nat.reduceAdd, Nat.reduceSub, Nat.reduceLT, Nat.reduceLeDiff, Nat.reduceEqDiff, Nat.zero_add, ↓reduceIte, decide_true, decide_false, Bool.not_true, Bool.not_false, eq_self, ne_eq, not_true_eq_false, not_false_eq_true, Int.reduceEq, Int.reduceToNat, Int.toNat_natCast, Int.reduceNe, Int.reduceLT, Int.reduceLE, Int.reduceNeg, Nat.reduceLeDiff, if_true, if_false, decide_not, Bool.true_and, Bool.and_true, Bool.false_and, Bool.and_false, Bool.not_not, reduceCtorEq, e1, hs] <;> rfl)
theorem pl_drawn {l : List D} (g : Good l) : ∃ n b l', f__law_drawn l [] = .ok (R2 n b, l') ∧ 1 ≤ b ∧ Int.gcd n b = 1 ∧ Bd 140 n ∧ Bd 140 b ∧ Good l' := by
  obtain ⟨i, l1, e1, i0, i1, g1⟩ := pl_take g (many := 4) (by decide) (bd_of (N := 7) (by omega) (by omega) (by decide))
  have e30 : dPow (.int 10) (.int 30) = some (.int 1000000000000000000000000000000) := rfl
  obtain ⟨size, hs, s0, s1⟩ : ∃ size, dIx (.tup [.int 1, .int 6, .int 60, .int 1000000000000000000000000000000]) (.int i) = some (.int size) ∧ 1 ≤ size ∧ size ≤ 1000000000000000000000000000000 := by
    rcases four i0 i1 with rfl | rfl | rfl | rfl
    · exact ⟨1, rfl, by omega, by omega⟩
    · exact ⟨6, rfl, by omega, by omega⟩
    · exact ⟨60, rfl, by omega, by omega⟩
    · exact ⟨_, rfl, by omega, by omega⟩
  obtain ⟨x, l2, e2, hx, g2⟩ := pl_sized g1
  have hb : Bd 101 size := bd_of (N := 1000000000000000000000000000001) (by omega) (by omega) (by decide)
  obtain ⟨y, l3, e3, y0, y1, g3⟩ := pl_take g2 (many := size) (by omega) (hb.mono (by decide))
  have hy : Bd 140 (1 + y) := bd_of (N := 1000000000000000000000000000002) (by omega) (by omega) (by decide)
  obtain ⟨n, b, en, b1, gb, hn, hbb⟩ := lw_isR (t := x) (b := 1 + y) (k := 140) (by omega) hx hy
  have er := pl_ratio x (1 + y) (by omega) (hy.mono (by decide))
  rw [en] at er
  refine ⟨n, b, l3, ?_, b1, gb, hn, hbb, g3⟩
  unfold f__law_drawn m__law_drawn
  (simp (disch := first | omega | assumption | (simp only [List.length_cons, List.length_nil, List.length_map, List.length_append, List.length_set]; omega)) only [E_c, E_var, E_own, E_bin, E_bin1, E_bin1x, E_bin2, E_bin2x, E_opt, E_un, E_un1, E_un1x, E_nil, E_cons, E_cons1, E_cons1x, E_cons2, E_cons2x, E_aF, E_tB, E_fB, E_fBx, E_tT, E_fT, E_fTx, E_selt, E_self, E_if, E_ifx, E_rOk, E_tAnd, E_tOr, E_tNot, E_fNotR, E_fNotRx, E_and, E_and1, E_and1x, E_or, E_or1, E_or1x, E_not, E_not1, E_not1x, E_eIf, E_selT, E_call, E_call1, E_call1x, E_to, E_tox, E_callN, E_callN1, E_toN, E_callH, E_ifOwn, E_callH1, E_callH2, E_toH, E_ixO, E_ixO1, E_ixO2, E_move, E_move1, E_ownA, E_ownA1, E_ownV, E_varV, E_seq, E_then, E_thenr, E_thenx, E_thenb, E_thenc, E_seqN, E_thenN, E_next, E_brk, E_ct, E_expr, E_expr1, E_expr1x, E_set, E_set1, E_set1x, E_ret, E_ret1, E_ret1x, E_retN, E_ifS, E_ifS1, E_ifS1x, E_asg, E_asg1, E_asg1x, E_asg2, E_nm, E_nilG, E_consG, E_obind, E_tupG2, E_tupG3, E_tupG4, E_par, E_par1, E_app, E_ifOwnS, E_app1, E_app1x, E_app20, E_app2, E_setIx, E_SI1, E_SI2, E_SI3, E_SI4, E_for, E_for1, E_for1x, E_items, E_items1, E_itL, E_itS, E_itT, E_rng1, E_rng11, E_rng2, E_rng21, E_lc, E_lc1, E_lc1x, E_lc2, E_runF, E_runr, E_runn, E_runx, E_runN, E_runNr, E_runH, E_runHr, E_runHn, E_runH2, E_raise1, E_R1, E_raise2, E_R2, E_R22, E_raise0, E_try, E_try1, E_tryr, E_tryx, E_try2, E_try2f, E_beh, E_behr, E_behb, E_behc, E_sl, E_sl1, E_sl2, E_sl3, E_sl3t, E_oN, E_oS, E_oS1, E_ch, E_ch1, E_ch2, E_ch3t, E_ch3f, E_ch4, E_enum, E_enum1, E_zip, E_zip1, E_zip1t, E_add, E_sub, E_neg, E_lt, E_le, E_gt, E_ge, E_eq, E_ne, E_mod, E_trI, E_trB, E_trN, E_trL, E_trT, E_lenL, E_lenT, E_lenS, E_listS, E_intB, E_intI, E_abs, E_listL, E_listT, E_tupleL, E_tupleT, E_dTup0, E_dTup1, E_dTup2, E_dTup3, E_dTup4, E_dTup5, E_dTup6, E_dTup7, E_dTup8, E_dTup9, E_dTup10, E_dTup11, E_dTup12, E_dLst0, E_dLst1, E_dLst2, E_dLst3, E_dLst4, E_dLst5, E_dLst6, E_dLst7, E_dLst8, E_dLst9, E_dLst10, E_dLst11, E_dLst12, E_gcd, E_isNnon, E_notN, E_isB, E_notB, E_ixL, E_ixT, E_at0, E_at1, E_at2, E_at3, E_at4, E_at5, E_isi_int_N, E_isi_int_B, E_isi_int_I, E_isi_int_S, E_isi_int_T, E_isi_int_L, E_isi_int_C, E_isi_bool_N, E_isi_bool_B, E_isi_bool_I, E_isi_bool_S, E_isi_bool_T, E_isi_bool_L, E_isi_bool_C, E_isi_str_N, E_isi_str_B, E_isi_str_I, E_isi_str_S, E_isi_str_T, E_isi_str_L, E_isi_str_C, E_isi_list_N, E_isi_list_B, E_isi_list_I, E_isi_list_S, E_isi_list_T, E_isi_list_L, E_isi_list_C, E_isi_tuple_N, E_isi_tuple_B, E_isi_tuple_I, E_isi_tuple_S, E_isi_tuple_T, E_isi_tuple_L, E_isi_tuple_C, E_isi2_N, E_isi2_B, E_isi2_I, E_isi2_S, E_isi2_T, E_isi2_L, E_isi2_C, E_isN_B, E_notN_B, E_isN_I, E_notN_I, E_isN_S, E_notN_S, E_isN_T, E_notN_T, E_isN_L, E_notN_L, E_isN_C, E_notN_C, E_isa1, E_isa2, E_lk1, E_xf, E_fam, E_mul, E_fdiv, E_ixN, E_decT, E_decF, List.getElem?_cons_zero, List.getElem?_cons_succ, List.set_cons_zero, List.set_cons_succ, List.length_cons, List.length_nil, List.length_map, List.append_nil, List.cons_append, List.nil_append, entry, List.map_cons, List.map_nil, List.replicate_succ, List.replicate_zero, Nat.reduceAdd, Nat.reduceSub, Nat.reduceLT, Nat.reduceLeDiff, Nat.reduceEqDiff, Nat.zero_add, ↓reduceIte, decide_true, decide_false, Bool.not_true, Bool.not_false, eq_self, ne_eq, not_true_eq_false, not_false_eq_true, Int.reduceEq, Int.reduceToNat, Int.toNat_natCast, Int.reduceNe, Int.reduceLT, Int.reduceLE, Int.reduceNeg, Nat.reduceLeDiff, if_true, if_false, decide_not, Bool.true_and, Bool.and_true, Bool.false_and, Bool.and_false, Bool.not_not, reduceCtorEq, e1, e30, hs, e2, e3, er] <;> rfl)
end Law

set_option Elab.async false
set_option linter.all false
set_option maxRecDepth 100000
set_option maxHeartbeats 4000000
noncomputable section
namespace Law
open PySem L2 Py
theorem same_lw (t b : Int) : f__law_same [Lw t b, Lw t b] = .ok (.bl true) := pl_same
theorem ne_lw (t b : Int) : dNe (Lw t b) (Lw t b) = some (.bl false) := by
  show dNe (R2 _ _) (R2 _ _) = _
  rw [dNe_tup2]; simp
theorem ne_zero2 : dNe (.lst [.str "zero", .bl true]) (.lst [.str "zero", .bl true]) = some (.bl false) := by
  have e : eqvD (.lst [.str "zero", .bl true]) (.lst [.str "zero", .bl true]) = true := by
    unfold eqvD
    simp [toPy, toPys, PyData.eqv, PyData.eqvAll]
  unfold dNe
  rw [e]
  have o : okD 20 (.lst [.str "zero", .bl true]) = true := by decide +kernel
  rw [o]
  rfl
theorem fl_le (a : Int) {b : Int} (hb : 1 ≤ b) : a.fdiv b * b ≤ a := by
  rw [Int.fdiv_eq_ediv_of_nonneg _ (by omega)]
  exact Int.ediv_mul_le a (by omega)
theorem fl_lt (a : Int) {b : Int} (hb : 1 ≤ b) : a < (a.fdiv b + 1) * b := by
  rw [Int.fdiv_eq_ediv_of_nonneg _ (by omega)]
  exact Int.lt_ediv_add_one_mul_self a (by omega)
theorem fl_bd {k : Nat} {a b : Int} (hb : 1 ≤ b) (ha : Bd k a) : Bd (k + 1) (a.fdiv b) := by
  have h1 := fl_le a hb
  have h2 := fl_lt a hb
  have h3 : (a.fdiv b).natAbs ≤ a.natAbs + 1 := by
    generalize a.fdiv b = q at *
    rcases Int.lt_or_le q 0 with h | h
    · have h4 : (q + 1) * b ≤ q + 1 := by
        have := Int.mul_le_mul_of_nonpos_left (a := q + 1) (b := b) (c := 1) (by omega) hb
        omega
      omega
    · have h4 : q ≤ q * b := by
        have := Int.mul_le_mul_of_nonneg_left hb h
        omega
      omega
  unfold Bd at *
  rw [Nat.pow_succ]
  omega
theorem pl_couples {l : List D} (g : Good l) : ∃ l', f__law_couples l [] = .ok (.bl true, l') ∧ Good l' := by
  obtain ⟨a, b, l1, e1, b1, _, ha0, hb0, g1⟩ := pl_drawn g
  obtain ⟨i, l2, e2, i0, i1, g2⟩ := pl_take g1 (many := 5) (by decide) (bd_of (N := 7) (by omega) (by omega) (by decide))
  obtain ⟨c, d, l3, hsel, d1, hc0, hd0, g3⟩ : ∃ c d l3, ((i = 0 ∧ c = a ∧ d = b ∧ l3 = l2) ∨ (i ≠ 0 ∧ f__law_drawn l2 [] = .ok (R2 c d, l3))) ∧ 1 ≤ d ∧ Bd 140 c ∧ Bd 140 d ∧ Good l3 := by
    by_cases hi : i = 0
    · exact ⟨a, b, l2, .inl ⟨hi, rfl, rfl, rfl⟩, b1, ha0, hb0, g2⟩
    · obtain ⟨c, d, l3, e3, d1, _, hc0, hd0, g3⟩ := pl_drawn g2
      exact ⟨c, d, l3, .inr ⟨hi, e3⟩, d1, hc0, hd0, g3⟩
  refine ⟨l3, ?_, g3⟩
  have ha : Bd 1400 a := ha0.mono (by decide)
  have hb : Bd 1400 b := hb0.mono (by decide)
  have hc : Bd 1400 c := hc0.mono (by decide)
  have hd : Bd 1400 d := hd0.mono (by decide)
  have b0 : b ≠ 0 := by omega
  have d0 : d ≠ 0 := by omega
  have hq : Bd 1400 (a.fdiv b) := (fl_bd b1 ha0).mono (by decide)
  have hq1 : Bd 1400 (a.fdiv b + 1) := ((fl_bd b1 ha0).add (b := 1) (bd_of (N := 2) (by omega) (by omega) (by decide))).mono (by decide)
  have f1 := fl_le a b1
  have f2 := fl_lt a b1
  have ep := pl_add ha hb hc hd b0 d0
  have ep2 := pl_plus ha hb hc hd b0 d0
  have es := pl_sub ha hb hc hd b0 d0
  have es2 := pl_plus ha hb hc.neg hd b0 d0
  have ee : a * d + -c * b = a * d - c * b := by rw [Int.neg_mul]; omega
  rw [ee] at es2
  have em := pl_mul ha hb hc hd b0 d0
  have em2 := pl_times ha hb hc hd b0 d0
  have eb1 := pl_below hc hd ha hb
  have eb2 := pl_below ha hb hc hd
  have ec := pl_cmp ha hb hc hd
  have ef := pl_floor (a := a) hb b0
  have ei : ∀ z : Int, f__law_int [.int z] = .ok (.bl true) := fun z => rfl
  have em1 := dMul_of hq hb (by decide)
  have em3 := dMul_of hq1 hb (by decide)
  have em4 := dMul_of ha hd (by decide)
  have em5 := dMul_of hb hc (by decide)
  have eL : dLt (.int a) (.int ((a.fdiv b + 1) * b)) = some (.bl true) := by
    show some (D.bl (decide _)) = _
    rw [decide_eq_true f2]
  unfold f__law_couples
  by_cases hz : c = 0
  · subst hz
    have ed := pl_divided0 (a := a) (b := b) (d := d)
    rcases Int.lt_trichotomy (a * d) (0 * b) with h | h | h <;> rcases hsel with ⟨hi, rfl, rfl, rfl⟩ | ⟨hi, e3⟩
    all_goals first | (exfalso; omega) | (unfold m__law_couples; (simp (disch := first | omega | assumption | (simp only [List.length_cons, List.length_nil, List.length_map, List.length_append, List.length_set]; omega) | (simp only [List.getElem?_cons_zero, List.getElem?_cons_succ]; done)) only [E_c, E_var, E_own, E_bin, E_bin1, E_bin1x, E_bin2, E_bin2x, E_opt, E_un, E_un1, E_un1x, E_nil, E_cons, E_cons1, E_cons1x, E_cons2, E_cons2x, E_aF, E_tB, E_fB, E_fBx, E_tT, E_fT, E_fTx, E_selt, E_self, E_if, E_ifx, E_rOk, E_tAnd, E_tOr, E_tNot, E_fNotR, E_fNotRx, E_and, E_and1, E_and1x, E_or, E_or1, E_or1x, E_not, E_not1, E_not1x, E_eIf, E_selT, E_call, E_call1, E_call1x, E_to, E_tox, E_callN, E_callN1, E_toN, E_callH, E_ifOwn, E_callH1, E_callH2, E_toH, E_ixO, E_ixO1, E_ixO2, E_move, E_move1, E_ownA, E_ownA1, E_ownV, E_varV, E_seq, E_then, E_thenr, E_thenx, E_thenb, E_thenc, E_seqN, E_thenN, E_next, E_brk, E_ct, E_expr, E_expr1, E_expr1x, E_set, E_set1, E_set1x, E_ret, E_ret1, E_ret1x, E_retN, E_ifS, E_ifS1, E_ifS1x, E_asg, E_asg1, E_asg1x, E_asg2, E_nm, E_nilG, E_consG, E_obind, E_tupG2, E_tupG3, E_tupG4, E_par, E_par1, E_app, E_ifOwnS, E_app1, E_app1x, E_app20, E_app2, E_setIx, E_SI1, E_SI2, E_SI3, E_SI4, E_for, E_for1, E_for1x, E_items, E_items1, E_itL, E_itS, E_itT, E_rng1, E_rng11, E_rng2, E_rng21, E_lc, E_lc1, E_lc1x, E_lc2, E_runF, E_runr, E_runn, E_runx, E_runN, E_runNr, E_runH, E_runHr, E_runHn, E_runH2, E_raise1, E_R1, E_raise2, E_R2, E_R22, E_raise0, E_try, E_try1, E_tryr, E_tryx, E_try2, E_try2f, E_beh, E_behr, E_behb, E_behc, E_sl, E_sl1, E_sl2, E_sl3, E_sl3t, E_oN, E_oS, E_oS1, E_ch, E_ch1, E_ch2, E_ch3t, E_ch3f, E_ch4, E_enum, E_enum1, E_zip, E_zip1, E_zip1t, E_add, E_sub, E_neg, E_lt, E_le, E_gt, E_ge, E_eq, E_ne, E_mod, E_trI, E_trB, E_trN, E_trL, E_trT, E_lenL, E_lenT, E_lenS, E_listS, E_intB, E_intI, E_abs, E_listL, E_listT, E_tupleL, E_tupleT, E_dTup0, E_dTup1, E_dTup2, E_dTup3, E_dTup4, E_dTup5, E_dTup6, E_dTup7, E_dTup8, E_dTup9, E_dTup10, E_dTup11, E_dTup12, E_dLst0, E_dLst1, E_dLst2, E_dLst3, E_dLst4, E_dLst5, E_dLst6, E_dLst7, E_dLst8, E_dLst9, E_dLst10, E_dLst11, E_dLst12, E_gcd, E_isNnon, E_notN, E_isB, E_notB, E_ixL, E_ixT, E_at0, E_at1, E_at2, E_at3, E_at4, E_at5, E_isi_int_N, E_isi_int_B, E_isi_int_I, E_isi_int_S, E_isi_int_T, E_isi_int_L, E_isi_int_C, E_isi_bool_N, E_isi_bool_B, E_isi_bool_I, E_isi_bool_S, E_isi_bool_T, E_isi_bool_L, E_isi_bool_C, E_isi_str_N, E_isi_str_B, E_isi_str_I, E_isi_str_S, E_isi_str_T, E_isi_str_L, E_isi_str_C, E_isi_list_N, E_isi_list_B, E_isi_list_I, E_isi_list_S, E_isi_list_T, E_isi_list_L, E_isi_list_C, E_isi_tuple_N, E_isi_tuple_B, E_isi_tuple_I, E_isi_tuple_S, E_isi_tuple_T, E_isi_tuple_L, E_isi_tuple_C, E_isi2_N, E_isi2_B, E_isi2_I, E_isi2_S, E_isi2_T, E_isi2_L, E_isi2_C, E_isN_B, E_notN_B, E_isN_I, E_notN_I, E_isN_S, E_notN_S, E_isN_T, E_notN_T, E_isN_L, E_notN_L, E_isN_C, E_notN_C, E_isa1, E_isa2, E_lk1, E_xf, E_fam, E_mul, E_fdiv, E_ixN, E_decT, E_decF, List.getElem?_cons_zero, List.getElem?_cons_succ, List.set_cons_zero, List.set_cons_succ, List.length_cons, List.length_nil, List.length_map, List.append_nil, List.cons_append, List.nil_append, entry, List.map_cons, List.map_nil, List.replicate_succ, List.replicate_zero, Nat.reduceAdd, Nat.reduceSub, Nat.reduceLT, Nat.reduceLeDiff, Nat.reduceEqDiff, Nat.zero_add, ↓reduceIte, decide_true, decide_false, Bool.not_true, Bool.not_false, eq_self, ne_eq, not_true_eq_false, not_false_eq_true, Int.reduceEq, Int.reduceToNat, Int.toNat_natCast, Int.reduceNe, Int.reduceLT, Int.reduceLE, Int.reduceNeg, Nat.reduceLeDiff, if_true, if_false, decide_not, Bool.true_and, Bool.and_true, Bool.false_and, Bool.and_false, Bool.not_not, reduceCtorEq, restE, wipeE, Option.getD_some, Option.getD_none, e1, e2, e3, ep, ep2, es, es2, em, em2, eb1, eb2, ec, ef, ei, same_lw, eL, ne_zero2, ed, em1, em3] <;> rfl)) | (unfold m__law_couples; (simp (disch := first | omega | assumption | (simp only [List.length_cons, List.length_nil, List.length_map, List.length_append, List.length_set]; omega) | (simp only [List.getElem?_cons_zero, List.getElem?_cons_succ]; done)) only [E_c, E_var, E_own, E_bin, E_bin1, E_bin1x, E_bin2, E_bin2x, E_opt, E_un, E_un1, E_un1x, E_nil, E_cons, E_cons1, E_cons1x, E_cons2, E_cons2x, E_aF, E_tB, E_fB, E_fBx, E_tT, E_fT, E_fTx, E_selt, E_self, E_if, E_ifx, E_rOk, E_tAnd, E_tOr, E_tNot, E_fNotR, E_fNotRx, E_and, E_and1, E_and1x, E_or, E_or1, E_or1x, E_not, E_not1, E_not1x, E_eIf, E_selT, E_call, E_call1, E_call1x, E_to, E_tox, E_callN, E_callN1, E_toN, E_callH, E_ifOwn, E_callH1, E_callH2, E_toH, E_ixO, E_ixO1, E_ixO2, E_move, E_move1, E_ownA, E_ownA1, E_ownV, E_varV, E_seq, E_then, E_thenr, E_thenx, E_thenb, E_thenc, E_seqN, E_thenN, E_next, E_brk, E_ct, E_expr, E_expr1, E_expr1x, E_set, E_set1, E_set1x, E_ret, E_ret1, E_ret1x, E_retN, E_ifS, E_ifS1, E_ifS1x, E_asg, E_asg1, E_asg1x, E_asg2, E_nm, E_nilG, E_consG, E_obind, E_tupG2, E_tupG3, E_tupG4, E_par, E_par1, E_app, E_ifOwnS, E_app1, E_app1x, E_app20, E_app2, E_setIx, E_SI1, E_SI2, E_SI3, E_SI4, E_for, E_for1, E_for1x, E_items, E_items1, E_itL, E_itS, E_itT, E_rng1, E_rng11, E_rng2, E_rng21, E_lc, E_lc1, E_lc1x, E_lc2, E_runF, E_runr, E_runn, E_runx, E_runN, E_runNr, E_runH, E_runHr, E_runHn, E_runH2, E_raise1, E_R1, E_raise2, E_R2, E_R22, E_raise0, E_try, E_try1, E_tryr, E_tryx, E_try2, E_try2f, E_beh, E_behr, E_behb, E_behc, E_sl, E_sl1, E_sl2, E_sl3, E_sl3t, E_oN, E_oS, E_oS1, E_ch, E_ch1, E_ch2, E_ch3t, E_ch3f, E_ch4, E_enum, E_enum1, E_zip, E_zip1, E_zip1t, E_add, E_sub, E_neg, E_lt, E_le, E_gt, E_ge, E_eq, E_ne, E_mod, E_trI, E_trB, E_trN, E_trL, E_trT, E_lenL, E_lenT, E_lenS, E_listS, E_intB, E_intI, E_abs, E_listL, E_listT, E_tupleL, E_tupleT, E_dTup0, E_dTup1, E_dTup2, E_dTup3, E_dTup4, E_dTup5, E_dTup6, E_dTup7, E_dTup8, E_dTup9, E_dTup10, E_dTup11, E_dTup12, E_dLst0, E_dLst1, E_dLst2, E_dLst3, E_dLst4, E_dLst5, E_dLst6, E_dLst7, E_dLst8, E_dLst9, E_dLst10, E_dLst11, E_dLst12, E_gcd, E_isNnon, E_notN, E_isB, E_notB, E_ixL, E_ixT, E_at0, E_at1, E_at2, E_at3, E_at4, E_at5, E_isi_int_N, E_isi_int_B, E_isi_int_I, E_isi_int_S, E_isi_int_T, E_isi_int_L, E_isi_int_C, E_isi_bool_N, E_isi_bool_B, E_isi_bool_I, E_isi_bool_S, E_isi_bool_T, E_isi_bool_L, E_isi_bool_C, E_isi_str_N, E_isi_str_B, E_isi_str_I, E_isi_str_S, E_isi_str_T, E_isi_str_L, E_isi_str_C, E_isi_list_N, E_isi_list_B, E_isi_list_I, E_isi_list_S, E_isi_list_T, E_isi_list_L, E_isi_list_C, E_isi_tuple_N, E_isi_tuple_B, E_isi_tuple_I, E_isi_tuple_S, E_isi_tuple_T, E_isi_tuple_L, E_isi_tuple_C, E_isi2_N, E_isi2_B, E_isi2_I, E_isi2_S, E_isi2_T, E_isi2_L, E_isi2_C, E_isN_B, E_notN_B, E_isN_I, E_notN_I, E_isN_S, E_notN_S, E_isN_T, E_notN_T, E_isN_L, E_notN_L, E_isN_C, E_notN_C, E_isa1, E_isa2, E_lk1, E_xf, E_fam, E_mul, E_fdiv, E_ixN, E_decT, E_decF, List.getElem?_cons_zero, List.getElem?_cons_succ, List.set_cons_zero, List.set_cons_succ, List.length_cons, List.length_nil, List.length_map, List.append_nil, List.cons_append, List.nil_append, entry, List.map_cons, List.map_nil, List.replicate_succ, List.replicate_zero, Nat.reduceAdd, Nat.reduceSub, Nat.reduceLT, Nat.reduceLeDiff, Nat.reduceEqDiff, Nat.zero_add, ↓reduceIte, decide_true, decide_false, Bool.not_true, Bool.not_false, eq_self, ne_eq, not_true_eq_false, not_false_eq_true, Int.reduceEq, Int.reduceToNat, Int.toNat_natCast, Int.reduceNe, Int.reduceLT, Int.reduceLE, Int.reduceNeg, Nat.reduceLeDiff, if_true, if_false, decide_not, Bool.true_and, Bool.and_true, Bool.false_and, Bool.and_false, Bool.not_not, reduceCtorEq, restE, wipeE, Option.getD_some, Option.getD_none, e1, e2, ep, ep2, es, es2, em, em2, eb1, eb2, ec, ef, ei, same_lw, eL, ne_zero2, ed, em1, em3] <;> rfl))
  · have ed := pl_divided ha hb hc hd b0 hz
    have er := pl_ratio (a * d) (b * c) (Int.mul_ne_zero b0 hz) ((hb.mul hc).mono (by decide))
    rcases Int.lt_trichotomy (a * d) (c * b) with h | h | h <;> rcases hsel with ⟨hi, rfl, rfl, rfl⟩ | ⟨hi, e3⟩
    all_goals first | (exfalso; omega) | (unfold m__law_couples; (simp (disch := first | omega | assumption | (simp only [List.length_cons, List.length_nil, List.length_map, List.length_append, List.length_set]; omega) | (simp only [List.getElem?_cons_zero, List.getElem?_cons_succ]; done)) only [E_c, E_var, E_own, E_bin, E_bin1, E_bin1x, E_bin2, E_bin2x, E_opt, E_un, E_un1, E_un1x, E_nil, E_cons, E_cons1, E_cons1x, E_cons2, E_cons2x, E_aF, E_tB, E_fB, E_fBx, E_tT, E_fT, E_fTx, E_selt, E_self, E_if, E_ifx, E_rOk, E_tAnd, E_tOr, E_tNot, E_fNotR, E_fNotRx, E_and, E_and1, E_and1x, E_or, E_or1, E_or1x, E_not, E_not1, E_not1x, E_eIf, E_selT, E_call, E_call1, E_call1x, E_to, E_tox, E_callN, E_callN1, E_toN, E_callH, E_ifOwn, E_callH1, E_callH2, E_toH, E_ixO, E_ixO1, E_ixO2, E_move, E_move1, E_ownA, E_ownA1, E_ownV, E_varV, E_seq, E_then, E_thenr, E_thenx, E_thenb, E_thenc, E_seqN, E_thenN, E_next, E_brk, E_ct, E_expr, E_expr1, E_expr1x, E_set, E_set1, E_set1x, E_ret, E_ret1, E_ret1x, E_retN, E_ifS, E_ifS1, E_ifS1x, E_asg, E_asg1, E_asg1x, E_asg2, E_nm, E_nilG, E_consG, E_obind, E_tupG2, E_tupG3, E_tupG4, E_par, E_par1, E_app, E_ifOwnS, E_app1, E_app1x, E_app20, E_app2, E_setIx, E_SI1, E_SI2, E_SI3, E_SI4, E_for, E_for1, E_for1x, E_items, E_items1, E_itL, E_itS, E_itT, E_rng1, E_rng11, E_rng2, E_rng21, E_lc, E_lc1, E_lc1x, E_lc2, E_runF, E_runr, E_runn, E_runx, E_runN, E_runNr, E_runH, E_runHr, E_runHn, E_runH2, E_raise1, E_R1, E_raise2, E_R2, E_R22, E_raise0, E_try, E_try1, E_tryr, E_tryx, E_try2, E_try2f, E_beh, E_behr, E_behb, E_behc, E_sl, E_sl1, E_sl2, E_sl3, E_sl3t, E_oN, E_oS, E_oS1, E_ch, E_ch1, E_ch2, E_ch3t, E_ch3f, E_ch4, E_enum, E_enum1, E_zip, E_zip1, E_zip1t, E_add, E_sub, E_neg, E_lt, E_le, E_gt, E_ge, E_eq, E_ne, E_mod, E_trI, E_trB, E_trN, E_trL, E_trT, E_lenL, E_lenT, E_lenS, E_listS, E_intB, E_intI, E_abs, E_listL, E_listT, E_tupleL, E_tupleT, E_dTup0, E_dTup1, E_dTup2, E_dTup3, E_dTup4, E_dTup5, E_dTup6, E_dTup7, E_dTup8, E_dTup9, E_dTup10, E_dTup11, E_dTup12, E_dLst0, E_dLst1, E_dLst2, E_dLst3, E_dLst4, E_dLst5, E_dLst6, E_dLst7, E_dLst8, E_dLst9, E_dLst10, E_dLst11, E_dLst12, E_gcd, E_isNnon, E_notN, E_isB, E_notB, E_ixL, E_ixT, E_at0, E_at1, E_at2, E_at3, E_at4, E_at5, E_isi_int_N, E_isi_int_B, E_isi_int_I, E_isi_int_S, E_isi_int_T, E_isi_int_L, E_isi_int_C, E_isi_bool_N, E_isi_bool_B, E_isi_bool_I, E_isi_bool_S, E_isi_bool_T, E_isi_bool_L, E_isi_bool_C, E_isi_str_N, E_isi_str_B, E_isi_str_I, E_isi_str_S, E_isi_str_T, E_isi_str_L, E_isi_str_C, E_isi_list_N, E_isi_list_B, E_isi_list_I, E_isi_list_S, E_isi_list_T, E_isi_list_L, E_isi_list_C, E_isi_tuple_N, E_isi_tuple_B, E_isi_tuple_I, E_isi_tuple_S, E_isi_tuple_T, E_isi_tuple_L, E_isi_tuple_C, E_isi2_N, E_isi2_B, E_isi2_I, E_isi2_S, E_isi2_T, E_isi2_L, E_isi2_C, E_isN_B, E_notN_B, E_isN_I, E_notN_I, E_isN_S, E_notN_S, E_isN_T, E_notN_T, E_isN_L, E_notN_L, E_isN_C, E_notN_C, E_isa1, E_isa2, E_lk1, E_xf, E_fam, E_mul, E_fdiv, E_ixN, E_decT, E_decF, List.getElem?_cons_zero, List.getElem?_cons_succ, List.set_cons_zero, List.set_cons_succ, List.length_cons, List.length_nil, List.length_map, List.append_nil, List.cons_append, List.nil_append, entry, List.map_cons, List.map_nil, List.replicate_succ, List.replicate_zero, Nat.reduceAdd, Nat.reduceSub, Nat.reduceLT, Nat.reduceLeDiff, Nat.reduceEqDiff, Nat.zero_add, ↓reduceIte, decide_true, decide_false, Bool.not_true, Bool.not_false, eq_self, ne_eq, not_true_eq_false, not_false_eq_true, Int.reduceEq, Int.reduceToNat, Int.toNat_natCast, Int.reduceNe, Int.reduceLT, Int.reduceLE, Int.reduceNeg, Nat.reduceLeDiff, if_true, if_false, decide_not, Bool.true_and, Bool.and_true, Bool.false_and, Bool.and_false, Bool.not_not, reduceCtorEq, restE, wipeE, Option.getD_some, Option.getD_none, e1, e2, e3, ep, ep2, es, es2, em, em2, eb1, eb2, ec, ef, ei, same_lw, eL, ne_lw, ed, er, em1, em3, em4, em5] <;> rfl)) | (unfold m__law_couples; (simp (disch := first | omega | assumption | (simp only [List.length_cons, List.length_nil, List.length_map, List.length_append, List.length_set]; omega) | (simp only [List.getElem?_cons_zero, List.getElem?_cons_succ]; done)) only [E_c, E_var, E_own, E_bin, E_bin1, E_bin1x, E_bin2, E_bin2x, E_opt, E_un, E_un1, E_un1x, E_nil, E_cons, E_cons1, E_cons1x, E_cons2, E_cons2x, E_aF, E_tB, E_fB, E_fBx, E_tT, E_fT, E_fTx, E_selt, E_self, E_if, E_ifx, E_rOk, E_tAnd, E_tOr, E_tNot, E_fNotR, E_fNotRx, E_and, E_and1, E_and1x, E_or, E_or1, E_or1x, E_not, E_not1, E_not1x, E_eIf, E_selT, E_call, E_call1, E_call1x, E_to, E_tox, E_callN, E_callN1, E_toN, E_callH, E_ifOwn, E_callH1, E_callH2, E_toH, E_ixO, E_ixO1, E_ixO2, E_move, E_move1, E_ownA, E_ownA1, E_ownV, E_varV, E_seq, E_then, E_thenr, E_thenx, E_thenb, E_thenc, E_seqN, E_thenN, E_next, E_brk, E_ct, E_expr, E_expr1, E_expr1x, E_set, E_set1, E_set1x, E_ret, E_ret1, E_ret1x, E_retN, E_ifS, E_ifS1, E_ifS1x, E_asg, E_asg1, E_asg1x, E_asg2, E_nm, E_nilG, E_consG, E_obind, E_tupG2, E_tupG3, E_tupG4, E_par, E_par1, E_app, E_ifOwnS, E_app1, E_app1x, E_app20, E_app2, E_setIx, E_SI1, E_SI2, E_SI3, E_SI4, E_for, E_for1, E_for1x, E_items, E_items1, E_itL, E_itS, E_itT, E_rng1, E_rng11, E_rng2, E_rng21, E_lc, E_lc1, E_lc1x, E_lc2, E_runF, E_runr, E_runn, E_runx, E_runN, E_runNr, E_runH, E_runHr, E_runHn, E_runH2, E_raise1, E_R1, E_raise2, E_R2, E_R22, E_raise0, E_try, E_try1, E_tryr, E_tryx, E_try2, E_try2f, E_beh, E_behr, E_behb, E_behc, E_sl, E_sl1, E_sl2, E_sl3, E_sl3t, E_oN, E_oS, E_oS1, E_ch, E_ch1, E_ch2, E_ch3t, E_ch3f, E_ch4, E_enum, E_enum1, E_zip, E_zip1, E_zip1t, E_add, E_sub, E_neg, E_lt, E_le, E_gt, E_ge, E_eq, E_ne, E_mod, E_trI, E_trB, E_trN, E_trL, E_trT, E_lenL, E_lenT, E_lenS, E_listS, E_intB, E_intI, E_abs, E_listL, E_listT, E_tupleL, E_tupleT, E_dTup0, E_dTup1, E_dTup2, E_dTup3, E_dTup4, E_dTup5, E_dTup6, E_dTup7, E_dTup8, E_dTup9, E_dTup10, E_dTup11, E_dTup12, E_dLst0, E_dLst1, E_dLst2, E_dLst3, E_dLst4, E_dLst5, E_dLst6, E_dLst7, E_dLst8, E_dLst9, E_dLst10, E_dLst11, E_dLst12, E_gcd, E_isNnon, E_notN, E_isB, E_notB, E_ixL, E_ixT, E_at0, E_at1, E_at2, E_at3, E_at4, E_at5, E_isi_int_N, E_isi_int_B, E_isi_int_I, E_isi_int_S, E_isi_int_T, E_isi_int_L, E_isi_int_C, E_isi_bool_N, E_isi_bool_B, E_isi_bool_I, E_isi_bool_S, E_isi_bool_T, E_isi_bool_L, E_isi_bool_C, E_isi_str_N, E_isi_str_B, E_isi_str_I, E_isi_str_S, E_isi_str_T, E_isi_str_L, E_isi_str_C, E_isi_list_N, E_isi_list_B, E_isi_list_I, E_isi_list_S, E_isi_list_T, E_isi_list_L, E_isi_list_C, E_isi_tuple_N, E_isi_tuple_B, E_isi_tuple_I, E_isi_tuple_S, E_isi_tuple_T, E_isi_tuple_L, E_isi_tuple_C, E_isi2_N, E_isi2_B, E_isi2_I, E_isi2_S, E_isi2_T, E_isi2_L, E_isi2_C, E_isN_B, E_notN_B, E_isN_I, E_notN_I, E_isN_S, E_notN_S, E_isN_T, E_notN_T, E_isN_L, E_notN_L, E_isN_C, E_notN_C, E_isa1, E_isa2, E_lk1, E_xf, E_fam, E_mul, E_fdiv, E_ixN, E_decT, E_decF, List.getElem?_cons_zero, List.getElem?_cons_succ, List.set_cons_zero, List.set_cons_succ, List.length_cons, List.length_nil, List.length_map, List.append_nil, List.cons_append, List.nil_append, entry, List.map_cons, List.map_nil, List.replicate_succ, List.replicate_zero, Nat.reduceAdd, Nat.reduceSub, Nat.reduceLT, Nat.reduceLeDiff, Nat.reduceEqDiff, Nat.zero_add, ↓reduceIte, decide_true, decide_false, Bool.not_true, Bool.not_false, eq_self, ne_eq, not_true_eq_false, not_false_eq_true, Int.reduceEq, Int.reduceToNat, Int.toNat_natCast, Int.reduceNe, Int.reduceLT, Int.reduceLE, Int.reduceNeg, Nat.reduceLeDiff, if_true, if_false, decide_not, Bool.true_and, Bool.and_true, Bool.false_and, Bool.and_false, Bool.not_not, reduceCtorEq, restE, wipeE, Option.getD_some, Option.getD_none, e1, e2, ep, ep2, es, es2, em, em2, eb1, eb2, ec, ef, ei, same_lw, eL, ne_lw, ed, er, em1, em3, em4, em5] <;> rfl))
end Law

set_option Elab.async false
set_option linter.all false
set_option maxRecDepth 100000
set_option maxHeartbeats 4000000
noncomputable section
namespace Law
open PySem L2 Py
/-! powers -/
theorem powLoop {base : Int} (hb : Bd 140 base) : ∀ (ds : List D) (k : Nat) (x y : D) (z : Option D), ds.length + k ≤ 13 → ∃ z', forL (nmG 3) l1__law_power ds [some (.int base), some y, some (.int (base ^ k)), z] = .nx [some (.int base), some y, some (.int (base ^ (k + ds.length))), z']
  | [], k, x, y, z, _ => ⟨z, rfl⟩
  | d :: ds, k, x, y, z, h => by
    have hk : Bd (140 * k + 1) (base ^ k) := by
      clear h
      induction k with
      | zero => exact bd_of (N := 2) (by simp) (by simp) (by decide)
      | succ k ih =>
        rw [Int.pow_succ]
        exact (ih.mul hb).mono (by omega)
    simp only [List.length_cons] at h
    have em : dMul (.int (base ^ k)) (.int base) = some (.int (base ^ k * base)) := dMul_of hk hb (by omega)
    have st : l1__law_power [some (.int base), some y, some (.int (base ^ k)), some d] = .nx [some (.int base), some y, some (.int (base ^ k * base)), some d] := by
      unfold l1__law_power
      (simp (disch := first | omega | assumption | (simp only [List.length_cons, List.length_nil, List.length_map, List.length_append, List.length_set]; omega)) only [E_c, E_var, E_own, E_bin, E_bin1, E_bin1x, E_bin2, E_bin2x, E_opt, E_un, E_un1, E_un1x, E_nil, E_cons, E_cons1, E_cons1x, E_cons2, E_cons2x, E_aF, E_tB, E_fB, E_fBx, E_tT, E_fT, E_fTx, E_selt, E_self, E_if, E_ifx, E_rOk, E_tAnd, E_tOr, E_tNot, E_fNotR, E_fNotRx, E_and, E_and1, E_and1x, E_or, E_or1, E_or1x, E_not, E_not1, E_not1x, E_eIf, E_selT, E_call, E_call1, E_call1x, E_to, E_tox, E_callN, E_callN1, E_toN, E_callH, E_ifOwn, E_callH1, E_callH2, E_toH, E_ixO, E_ixO1, E_ixO2, E_move, E_move1, E_ownA, E_ownA1, E_ownV, E_varV, E_seq, E_then, E_thenr, E_thenx, E_thenb, E_thenc, E_seqN, E_thenN, E_next, E_brk, E_ct, E_expr, E_expr1, E_expr1x, E_set, E_set1, E_set1x, E_ret, E_ret1, E_ret1x, E_retN, E_ifS, E_ifS1, E_ifS1x, E_asg, E_asg1, E_asg1x, E_asg2, E_nm, E_nilG, E_consG, E_obind, E_tupG2, E_tupG3, E_tupG4, E_par, E_par1, E_app, E_ifOwnS, E_app1, E_app1x, E_app20, E_app2, E_setIx, E_SI1, E_SI2, E_SI3, E_SI4, E_for, E_for1, E_for1x, E_items, E_items1, E_itL, E_itS, E_itT, E_rng1, E_rng11, E_rng2, E_rng21, E_lc, E_lc1, E_lc1x, E_lc2, E_runF, E_runr, E_runn, E_runx, E_runN, E_runNr, E_runH, E_runHr, E_runHn, E_runH2, E_raise1, E_R1, E_raise2, E_R2, E_R22, E_raise0, E_try, E_try1, E_tryr, E_tryx, E_try2, E_try2f, E_beh, E_behr, E_behb, E_behc, E_sl, E_sl1, E_sl2, E_sl3, E_sl3t, E_oN, E_oS, E_oS1, E_ch, E_ch1, E_ch2, E_ch3t, E_ch3f, E_ch4, E_enum, E_enum1, E_zip, E_zip1, E_zip1t, E_add, E_sub, E_neg, E_lt, E_le, E_gt, E_ge, E_eq, E_ne, E_mod, E_trI, E_trB, E_trN, E_trL, E_trT, E_lenL, E_lenT, E_lenS, E_listS, E_intB, E_intI, E_abs, E_listL, E_listT, E_tupleL, E_tupleT, E_dTup0, E_dTup1, E_dTup2, E_dTup3, E_dTup4, E_dTup5, E_dTup6, E_dTup7, E_dTup8, E_dTup9, E_dTup10, E_dTup11, E_dTup12, E_dLst0, E_dLst1, E_dLst2, E_dLst3, E_dLst4, E_dLst5, E_dLst6, E_dLst7, E_dLst8, E_dLst9, E_dLst10, E_dLst11, E_dLst12, E_gcd, E_isNnon, E_notN, E_isB, E_notB, E_ixL, E_ixT, E_at0, E_at1, E_at2, E_at3, E_at4, E_at5, E_isi_int_N, E_isi_int_B, E_isi_int_I, E_isi_int_S, E_isi_int_T, E_isi_int_L, E_isi_int_C, E_isi_bool_N, E_isi_bool_B, E_isi_bool_I, E_isi_bool_S, E_isi_bool_T, E_isi_bool_L, E_isi_bool_C, E_isi_str_N, E_isi_str_B, E_isi_str_I, E_isi_str_S, E_isi_str_T, E_isi_str_L, E_isi_str_C, E_isi_list_N, E_isi_list_B, E_isi_list_I, E_isi_list_S, E_isi_list_T, E_isi_list_L, E_isi_list_C, E_isi_tuple_N, E_isi_tuple_B, E_isi_tuple_I, E_isi_tuple_S, E_isi_tuple_T, E_isi_tuple_L, E_isi_tuple_C, E_isi2_N, E_isi2_B, E_isi2_I, E_isi2_S, E_isi2_T, E_isi2_L, E_isi2_C, E_isN_B, E_notN_B, E_isN_I, E_notN_I, E_isN_S, E_notN_S, E_isN_T, E_notN_T, E_isN_L, E_notN_L, E_isN_C, E_notN_C, E_isa1, E_isa2, E_lk1, E_xf, E_fam, E_mul, E_fdiv, E_ixN, E_decT, E_decF, List.getElem?_cons_zero, List.getElem?_cons_succ, List.set_cons_zero, List.set_cons_succ, List.length_cons, List.length_nil, List.length_map, List.append_nil, List.cons_append, List.nil_append, entry, List.map_cons, List.map_nil, List.replicate_succ, List.replicate_zero, Nat.reduceAdd, Nat.reduceSub, Nat.reduceLT, Nat.reduceLeDiff, Nat.reduceEqDiff, Nat.zero_add, ↓reduceIte, decide_true, decide_false, Bool.not_true, Bool.not_false, eq_self, ne_eq, not_true_eq_false, not_false_eq_true, Int.reduceEq, Int.reduceToNat, Int.toNat_natCast, Int.reduceNe, Int.reduceLT, Int.reduceLE, Int.reduceNeg, Nat.reduceLeDiff, if_true, if_false, decide_not, Bool.true_and, Bool.and_true, Bool.false_and, Bool.and_false, Bool.not_not, reduceCtorEq, em] <;> rfl)
    obtain ⟨z', ih⟩ := powLoop hb ds (k + 1) x y (some d) (by omega)
    refine ⟨z', ?_⟩
    show (match l1__law_power [some (.int base), some y, some (.int (base ^ k)), some d] with | .nx ρ2 => forL (nmG 3) l1__law_power ds ρ2 | .ct ρ2 => forL (nmG 3) l1__law_power ds ρ2 | .brk ρ2 => .nx ρ2 | .ret d ρ2 => .ret d ρ2 | .exc e ρ2 => .exc e ρ2 | .stuck => .stuck) = _
    rw [st, ← Int.pow_succ]
    rw [List.length_cons, show k + (ds.length + 1) = k + 1 + ds.length by omega]
    exact ih
theorem pl_lpower {base e : Int} (hb : Bd 140 base) (e0 : 0 ≤ e) (e1 : e < 13) : f__law_power [.int base, .int e] = .ok (.int (base ^ e.toNat)) := by
  obtain ⟨z', h⟩ := powLoop hb (rngD 0 e) 0 (.int base) (.int e) none (by unfold rngD; rw [List.length_map, List.length_range]; omega)
  have hl : (rngD 0 e).length = e.toNat := by unfold rngD; rw [List.length_map, List.length_range]; omega
  rw [hl, Nat.zero_add, Int.pow_zero] at h
  have hr : -(2 ^ 62) ≤ e ∧ e < 2 ^ 62 := by omega
  unfold f__law_power m__law_power
  (simp (disch := first | omega | assumption | (simp only [List.length_cons, List.length_nil, List.length_map, List.length_append, List.length_set]; omega)) only [E_c, E_var, E_own, E_bin, E_bin1, E_bin1x, E_bin2, E_bin2x, E_opt, E_un, E_un1, E_un1x, E_nil, E_cons, E_cons1, E_cons1x, E_cons2, E_cons2x, E_aF, E_tB, E_fB, E_fBx, E_tT, E_fT, E_fTx, E_selt, E_self, E_if, E_ifx, E_rOk, E_tAnd, E_tOr, E_tNot, E_fNotR, E_fNotRx, E_and, E_and1, E_and1x, E_or, E_or1, E_or1x, E_not, E_not1, E_not1x, E_eIf, E_selT, E_call, E_call1, E_call1x, E_to, E_tox, E_callN, E_callN1, E_toN, E_callH, E_ifOwn, E_callH1, E_callH2, E_toH, E_ixO, E_ixO1, E_ixO2, E_move, E_move1, E_ownA, E_ownA1, E_ownV, E_varV, E_seq, E_then, E_thenr, E_thenx, E_thenb, E_thenc, E_seqN, E_thenN, E_next, E_brk, E_ct, E_expr, E_expr1, E_expr1x, E_set, E_set1, E_set1x, E_ret, E_ret1, E_ret1x, E_retN, E_ifS, E_ifS1, E_ifS1x, E_asg, E_asg1, E_asg1x, E_asg2, E_nm, E_nilG, E_consG, E_obind, E_tupG2, E_tupG3, E_tupG4, E_par, E_par1, E_app, E_ifOwnS, E_app1, E_app1x, E_app20, E_app2, E_setIx, E_SI1, E_SI2, E_SI3, E_SI4, E_for, E_for1, E_for1x, E_items, E_items1, E_itL, E_itS, E_itT, E_rng1, E_rng11, E_rng2, E_rng21, E_lc, E_lc1, E_lc1x, E_lc2, E_runF, E_runr, E_runn, E_runx, E_runN, E_runNr, E_runH, E_runHr, E_runHn, E_runH2, E_raise1, E_R1, E_raise2, E_R2, E_R22, E_raise0, E_try, E_try1, E_tryr, E_tryx, E_try2, E_try2f, E_beh, E_behr, E_behb, E_behc, E_sl, E_sl1, E_sl2, E_sl3, E_sl3t, E_oN, E_oS, E_oS1, E_ch, E_ch1, E_ch2, E_ch3t, E_ch3f, E_ch4, E_enum, E_enum1, E_zip, E_zip1, E_zip1t, E_add, E_sub, E_neg, E_lt, E_le, E_gt, E_ge, E_eq, E_ne, E_mod, E_trI, E_trB, E_trN, E_trL, E_trT, E_lenL, E_lenT, E_lenS, E_listS, E_intB, E_intI, E_abs, E_listL, E_listT, E_tupleL, E_tupleT, E_dTup0, E_dTup1, E_dTup2, E_dTup3, E_dTup4, E_dTup5, E_dTup6, E_dTup7, E_dTup8, E_dTup9, E_dTup10, E_dTup11, E_dTup12, E_dLst0, E_dLst1, E_dLst2, E_dLst3, E_dLst4, E_dLst5, E_dLst6, E_dLst7, E_dLst8, E_dLst9, E_dLst10, E_dLst11, E_dLst12, E_gcd, E_isNnon, E_notN, E_isB, E_notB, E_ixL, E_ixT, E_at0, E_at1, E_at2, E_at3, E_at4, E_at5, E_isi_int_N, E_isi_int_B, E_isi_int_I, E_isi_int_S, E_isi_int_T, E_isi_int_L, E_isi_int_C, E_isi_bool_N, E_isi_bool_B, E_isi_bool_I, E_isi_bool_S, E_isi_bool_T, E_isi_bool_L, E_isi_bool_C, E_isi_str_N, E_isi_str_B, E_isi_str_I, E_isi_str_S, E_isi_str_T, E_isi_str_L, E_isi_str_C, E_isi_list_N, E_isi_list_B, E_isi_list_I, E_isi_list_S, E_isi_list_T, E_isi_list_L, E_isi_list_C, E_isi_tuple_N, E_isi_tuple_B, E_isi_tuple_I, E_isi_tuple_S, E_isi_tuple_T, E_isi_tuple_L, E_isi_tuple_C, E_isi2_N, E_isi2_B, E_isi2_I, E_isi2_S, E_isi2_T, E_isi2_L, E_isi2_C, E_isN_B, E_notN_B, E_isN_I, E_notN_I, E_isN_S, E_notN_S, E_isN_T, E_notN_T, E_isN_L, E_notN_L, E_isN_C, E_notN_C, E_isa1, E_isa2, E_lk1, E_xf, E_fam, E_mul, E_fdiv, E_ixN, E_decT, E_decF, List.getElem?_cons_zero, List.getElem?_cons_succ, List.set_cons_zero, List.set_cons_succ, List.length_cons, List.length_nil, List.length_map, List.append_nil, List.cons_append, List.nil_append, entry, List.map_cons, List.map_nil, List.replicate_succ, List.replicate_zero, Nat.reduceAdd, Nat.reduceSub, Nat.reduceLT, Nat.reduceLeDiff, Nat.reduceEqDiff, Nat.zero_add, ↓reduceIte, decide_true, decide_false, Bool.not_true, Bool.not_false, eq_self, ne_eq, not_true_eq_false, not_false_eq_true, Int.reduceEq, Int.reduceToNat, Int.toNat_natCast, Int.reduceNe, Int.reduceLT, Int.reduceLE, Int.reduceNeg, Nat.reduceLeDiff, if_true, if_false, decide_not, Bool.true_and, Bool.and_true, Bool.false_and, Bool.and_false, Bool.not_not, reduceCtorEq, hr, h] <;> rfl)
theorem and1 (i : Nat) : Builtin.bitAnd (i : Int) 1 = ((i % 2 : Nat) : Int) := by
  first
  | exact congrArg Int.ofNat (Nat.and_one_is_mod i)
  | simp [Builtin.bitAnd, Nat.and_one_is_mod]
end Law

set_option Elab.async false
set_option linter.all false
set_option maxRecDepth 100000
set_option maxHeartbeats 4000000
noncomputable section
namespace Law
open PySem L2 Py
theorem sqpow (s : Int) : ∀ h : Nat, (s * s) ^ h = s ^ (2 * h)
  | 0 => by simp
  | h + 1 => by rw [Int.pow_succ, sqpow s h, show 2 * (h + 1) = 2 * h + 1 + 1 by omega, Int.pow_succ, Int.pow_succ, Int.mul_assoc]
theorem powStop {x y : D} {t s : Int} {n : Nat} : whN t1_whole_power l2_whole_power (n + 1) [some x, some y, some (.int t), some (.int s), some (.int 0)] = some (.nx [some x, some y, some (.int t), some (.int s), some (.int 0)]) := by
  have e : t1_whole_power [some x, some y, some (.int t), some (.int s), some (.int 0)] = .ok false [some x, some y, some (.int t), some (.int s), some (.int 0)] := rfl
  unfold whN
  rw [e]
theorem powGo {x y : D} {t s : Int} {n L : Nat} (hL : 0 < L) : whN t1_whole_power l2_whole_power (n + 1) [some x, some y, some (.int t), some (.int s), some (.int L)] = (match l2_whole_power [some x, some y, some (.int t), some (.int s), some (.int L)] with
      | .nx ρ2 => whN t1_whole_power l2_whole_power n ρ2
      | .ct ρ2 => whN t1_whole_power l2_whole_power n ρ2
      | .brk ρ2 => some (.nx ρ2)
      | .ret d ρ2 => some (.ret d ρ2)
      | .exc e ρ2 => some (.exc e ρ2)
      | .stuck => some .stuck) := by
  have e : t1_whole_power [some x, some y, some (.int t), some (.int s), some (.int L)] = .ok (decide ((0 : Int) < L)) [some x, some y, some (.int t), some (.int s), some (.int L)] := rfl
  rw [decide_eq_true (by omega)] at e
  unfold whN
  rw [e]
  cases n <;> rfl
theorem powWhile {x y : D} : ∀ (n L : Nat) (t s : Int) (kt ks : Nat), L < 2 ^ n → Bd kt t → Bd ks s → kt + ks * L ≤ 100000 → ∃ s', whN t1_whole_power l2_whole_power (n + 1) [some x, some y, some (.int t), some (.int s), some (.int L)] = some (.nx [some x, some y, some (.int (t * s ^ L)), some (.int s'), some (.int 0)])
  | n, 0, t, s, kt, ks, _, _, _, _ => ⟨s, by rw [Int.pow_zero, Int.mul_one]; exact powStop⟩
  | 0, L + 1, t, s, kt, ks, h, _, _, _ => by omega
  | n + 1, L + 1, t, s, kt, ks, h, ht, hs, hk => by
    rw [powGo (by omega)]
    obtain ⟨M, hM⟩ : ∃ M, M = L + 1 := ⟨_, rfl⟩
    rw [← hM] at h hk ⊢
    have hM0 : 0 < M := by omega
    have kk : ks ≤ ks * M := Nat.le_mul_of_pos_right _ hM0
    obtain ⟨q, hq⟩ : ∃ q, q = M / 2 := ⟨_, rfl⟩
    have es : dShr (.int M) (.int 1) = some (.int q) := by
      show (if (0 : Int) ≤ 1 then some (D.int ((M : Int) / 2 ^ (1 : Int).toNat)) else none) = _
      rw [if_pos (by decide), hq]
      rfl
    have eb : dBAnd (.int M) (.int 1) = some (.int ((M % 2 : Nat) : Int)) := by
      show some (D.int (Builtin.bitAnd M 1)) = _
      rw [and1]
    have em1 : dMul (.int t) (.int s) = some (.int (t * s)) := dMul_of ht hs (by omega)
    have em2 : dMul (.int s) (.int s) = some (.int (s * s)) := dMul_of hs hs (by omega)
    have hqn : q < 2 ^ n := by rw [Nat.pow_succ] at h; omega
    have et : truthD (.int ((M % 2 : Nat) : Int)) = some (decide (M % 2 = 1)) := by
      rcases Nat.mod_two_eq_zero_or_one M with h | h <;> rw [h] <;> rfl
    obtain ⟨s2, hs2⟩ : ∃ s2, s2 = (if 0 < q then s * s else s) := ⟨_, rfl⟩
    obtain ⟨t2, ht2⟩ : ∃ t2, t2 = (if M % 2 = 1 then t * s else t) := ⟨_, rfl⟩
    have st : l2_whole_power [some x, some y, some (.int t), some (.int s), some (.int M)] = .nx [some x, some y, some (.int t2), some (.int s2), some (.int q)] := by
      by_cases ho : M % 2 = 1 <;> by_cases hz : 0 < q
      · rw [hs2, ht2, if_pos hz, if_pos ho]
        unfold l2_whole_power
        (simp (disch := first | omega | assumption | (simp only [List.length_cons, List.length_nil, List.length_map, List.length_append, List.length_set]; omega) | (simp only [List.getElem?_cons_zero, List.getElem?_cons_succ]; done)) only [E_c, E_var, E_own, E_bin, E_bin1, E_bin1x, E_bin2, E_bin2x, E_opt, E_un, E_un1, E_un1x, E_nil, E_cons, E_cons1, E_cons1x, E_cons2, E_cons2x, E_aF, E_tB, E_fB, E_fBx, E_tT, E_fT, E_fTx, E_selt, E_self, E_if, E_ifx, E_rOk, E_tAnd, E_tOr, E_tNot, E_fNotR, E_fNotRx, E_and, E_and1, E_and1x, E_or, E_or1, E_or1x, E_not, E_not1, E_not1x, E_eIf, E_selT, E_call, E_call1, E_call1x, E_to, E_tox, E_callN, E_callN1, E_toN, E_callH, E_ifOwn, E_callH1, E_callH2, E_toH, E_ixO, E_ixO1, E_ixO2, E_move, E_move1, E_ownA, E_ownA1, E_ownV, E_varV, E_seq, E_then, E_thenr, E_thenx, E_thenb, E_thenc, E_seqN, E_thenN, E_next, E_brk, E_ct, E_expr, E_expr1, E_expr1x, E_set, E_set1, E_set1x, E_ret, E_ret1, E_ret1x, E_retN, E_ifS, E_ifS1, E_ifS1x, E_asg, E_asg1, E_asg1x, E_asg2, E_nm, E_nilG, E_consG, E_obind, E_tupG2, E_tupG3, E_tupG4, E_par, E_par1, E_app, E_ifOwnS, E_app1, E_app1x, E_app20, E_app2, E_setIx, E_SI1, E_SI2, E_SI3, E_SI4, E_for, E_for1, E_for1x, E_items, E_items1, E_itL, E_itS, E_itT, E_rng1, E_rng11, E_rng2, E_rng21, E_lc, E_lc1, E_lc1x, E_lc2, E_runF, E_runr, E_runn, E_runx, E_runN, E_runNr, E_runH, E_runHr, E_runHn, E_runH2, E_raise1, E_R1, E_raise2, E_R2, E_R22, E_raise0, E_try, E_try1, E_tryr, E_tryx, E_try2, E_try2f, E_beh, E_behr, E_behb, E_behc, E_sl, E_sl1, E_sl2, E_sl3, E_sl3t, E_oN, E_oS, E_oS1, E_ch, E_ch1, E_ch2, E_ch3t, E_ch3f, E_ch4, E_enum, E_enum1, E_zip, E_zip1, E_zip1t, E_add, E_sub, E_neg, E_lt, E_le, E_gt, E_ge, E_eq, E_ne, E_mod, E_trI, E_trB, E_trN, E_trL, E_trT, E_lenL, E_lenT, E_lenS, E_listS, E_intB, E_intI, E_abs, E_listL, E_listT, E_tupleL, E_tupleT, E_dTup0, E_dTup1, E_dTup2, E_dTup3, E_dTup4, E_dTup5, E_dTup6, E_dTup7, E_dTup8, E_dTup9, E_dTup10, E_dTup11, E_dTup12, E_dLst0, E_dLst1, E_dLst2, E_dLst3, E_dLst4, E_dLst5, E_dLst6, E_dLst7, E_dLst8, E_dLst9, E_dLst10, E_dLst11, E_dLst12, E_gcd, E_isNnon, E_notN, E_isB, E_notB, E_ixL, E_ixT, E_at0, E_at1, E_at2, E_at3, E_at4, E_at5, E_isi_int_N, E_isi_int_B, E_isi_int_I, E_isi_int_S, E_isi_int_T, E_isi_int_L, E_isi_int_C, E_isi_bool_N, E_isi_bool_B, E_isi_bool_I, E_isi_bool_S, E_isi_bool_T, E_isi_bool_L, E_isi_bool_C, E_isi_str_N, E_isi_str_B, E_isi_str_I, E_isi_str_S, E_isi_str_T, E_isi_str_L, E_isi_str_C, E_isi_list_N, E_isi_list_B, E_isi_list_I, E_isi_list_S, E_isi_list_T, E_isi_list_L, E_isi_list_C, E_isi_tuple_N, E_isi_tuple_B, E_isi_tuple_I, E_isi_tuple_S, E_isi_tuple_T, E_isi_tuple_L, E_isi_tuple_C, E_isi2_N, E_isi2_B, E_isi2_I, E_isi2_S, E_isi2_T, E_isi2_L, E_isi2_C, E_isN_B, E_notN_B, E_isN_I, E_notN_I, E_isN_S, E_notN_S, E_isN_T, E_notN_T, E_isN_L, E_notN_L, E_isN_C, E_notN_C, E_isa1, E_isa2, E_lk1, E_xf, E_fam, E_mul, E_fdiv, E_ixN, E_decT, E_decF, List.getElem?_cons_zero, List.getElem?_cons_succ, List.set_cons_zero, List.set_cons_succ, List.length_cons, List.length_nil, List.length_map, List.append_nil, List.cons_append, List.nil_append, entry, List.map_cons, List.map_nil, List.replicate_succ, List.replicate_zero, Nat.reduceAdd, Nat.reduceSub, Nat.reduceLT, Nat.reduceLeDiff, Nat.reduceEqDiff, Nat.zero_add, ↓reduceIte, decide_true, decide_false, Bool.not_true, Bool.not_false, eq_self, ne_eq, not_true_eq_false, not_false_eq_true, Int.reduceEq, Int.reduceToNat, Int.toNat_natCast, Int.reduceNe, Int.reduceLT, Int.reduceLE, Int.reduceNeg, Nat.reduceLeDiff, if_true, if_false, decide_not, Bool.true_and, Bool.and_true, Bool.false_and, Bool.and_false, Bool.not_not, reduceCtorEq, restE, wipeE, Option.getD_some, Option.getD_none, es, eb, em1, em2, et] <;> rfl)
      · rw [hs2, ht2, if_neg hz, if_pos ho]
        unfold l2_whole_power
        (simp (disch := first | omega | assumption | (simp only [List.length_cons, List.length_nil, List.length_map, List.length_append, List.length_set]; omega) | (simp only [List.getElem?_cons_zero, List.getElem?_cons_succ]; done)) only [E_c, E_var, E_own, E_bin, E_bin1, E_bin1x, E_bin2, E_bin2x, E_opt, E_un, E_un1, E_un1x, E_nil, E_cons, E_cons1, E_cons1x, E_cons2, E_cons2x, E_aF, E_tB, E_fB, E_fBx, E_tT, E_fT, E_fTx, E_selt, E_self, E_if, E_ifx, E_rOk, E_tAnd, E_tOr, E_tNot, E_fNotR, E_fNotRx, E_and, E_and1, E_and1x, E_or, E_or1, E_or1x, E_not, E_not1, E_not1x, E_eIf, E_selT, E_call, E_call1, E_call1x, E_to, E_tox, E_callN, E_callN1, E_toN, E_callH, E_ifOwn, E_callH1, E_callH2, E_toH, E_ixO, E_ixO1, E_ixO2, E_move, E_move1, E_ownA, E_ownA1, E_ownV, E_varV, E_seq, E_then, E_thenr, E_thenx, E_thenb, E_thenc, E_seqN, E_thenN, E_next, E_brk, E_ct, E_expr, E_expr1, E_expr1x, E_set, E_set1, E_set1x, E_ret, E_ret1, E_ret1x, E_retN, E_ifS, E_ifS1, E_ifS1x, E_asg, E_asg1, E_asg1x, E_asg2, E_nm, E_nilG, E_consG, E_obind, E_tupG2, E_tupG3, E_tupG4, E_par, E_par1, E_app, E_ifOwnS, E_app1, E_app1x, E_app20, E_app2, E_setIx, E_SI1, E_SI2, E_SI3, E_SI4, E_for, E_for1, E_for1x, E_items, E_items1, E_itL, E_itS, E_itT, E_rng1, E_rng11, E_rng2, E_rng21, E_lc, E_lc1, E_lc1x, E_lc2, E_runF, E_runr, E_runn, E_runx, E_runN, E_runNr, E_runH, E_runHr, E_runHn, E_runH2, E_raise1, E_R1, E_raise2, E_R2, E_R22, E_raise0, E_try, E_try1, E_tryr, E_tryx, E_try2, E_try2f, E_beh, E_behr, E_behb, E_behc, E_sl, E_sl1, E_sl2, E_sl3, E_sl3t, E_oN, E_oS, E_oS1, E_ch, E_ch1, E_ch2, E_ch3t, E_ch3f, E_ch4, E_enum, E_enum1, E_zip, E_zip1, E_zip1t, E_add, E_sub, E_neg, E_lt, E_le, E_gt, E_ge, E_eq, E_ne, E_mod, E_trI, E_trB, E_trN, E_trL, E_trT, E_lenL, E_lenT, E_lenS, E_listS, E_intB, E_intI, E_abs, E_listL, E_listT, E_tupleL, E_tupleT, E_dTup0, E_dTup1, E_dTup2, E_dTup3, E_dTup4, E_dTup5, E_dTup6, E_dTup7, E_dTup8, E_dTup9, E_dTup10, E_dTup11, E_dTup12, E_dLst0, E_dLst1, E_dLst2, E_dLst3, E_dLst4, E_dLst5, E_dLst6, E_dLst7, E_dLst8, E_dLst9, E_dLst10, E_dLst11, E_dLst12, E_gcd, E_isNnon, E_notN, E_isB, E_notB, E_ixL, E_ixT, E_at0, E_at1, E_at2, E_at3, E_at4, E_at5, E_isi_int_N, E_isi_int_B, E_isi_int_I, E_isi_int_S, E_isi_int_T, E_isi_int_L, E_isi_int_C, E_isi_bool_N, E_isi_bool_B, E_isi_bool_I, E_isi_bool_S, E_isi_bool_T, E_isi_bool_L, E_isi_bool_C, E_isi_str_N, E_isi_str_B, E_isi_str_I, E_isi_str_S, E_isi_str_T, E_isi_str_L, E_isi_str_C, E_isi_list_N, E_isi_list_B, E_isi_list_I, E_isi_list_S, E_isi_list_T, E_isi_list_L, E_isi_list_C, E_isi_tuple_N, E_isi_tuple_B, E_isi_tuple_I, E_isi_tuple_S, E_isi_tuple_T, E_isi_tuple_L, E_isi_tuple_C, E_isi2_N, E_isi2_B, E_isi2_I, E_isi2_S, E_isi2_T, E_isi2_L, E_isi2_C, E_isN_B, E_notN_B, E_isN_I, E_notN_I, E_isN_S, E_notN_S, E_isN_T, E_notN_T, E_isN_L, E_notN_L, E_isN_C, E_notN_C, E_isa1, E_isa2, E_lk1, E_xf, E_fam, E_mul, E_fdiv, E_ixN, E_decT, E_decF, List.getElem?_cons_zero, List.getElem?_cons_succ, List.set_cons_zero, List.set_cons_succ, List.length_cons, List.length_nil, List.length_map, List.append_nil, List.cons_append, List.nil_append, entry, List.map_cons, List.map_nil, List.replicate_succ, List.replicate_zero, Nat.reduceAdd, Nat.reduceSub, Nat.reduceLT, Nat.reduceLeDiff, Nat.reduceEqDiff, Nat.zero_add, ↓reduceIte, decide_true, decide_false, Bool.not_true, Bool.not_false, eq_self, ne_eq, not_true_eq_false, not_false_eq_true, Int.reduceEq, Int.reduceToNat, Int.toNat_natCast, Int.reduceNe, Int.reduceLT, Int.reduceLE, Int.reduceNeg, Nat.reduceLeDiff, if_true, if_false, decide_not, Bool.true_and, Bool.and_true, Bool.false_and, Bool.and_false, Bool.not_not, reduceCtorEq, restE, wipeE, Option.getD_some, Option.getD_none, es, eb, em1, em2, et] <;> rfl)
      · rw [hs2, ht2, if_pos hz, if_neg ho]
        unfold l2_whole_power
        (simp (disch := first | omega | assumption | (simp only [List.length_cons, List.length_nil, List.length_map, List.length_append, List.length_set]; omega) | (simp only [List.getElem?_cons_zero, List.getElem?_cons_succ]; done)) only [E_c, E_var, E_own, E_bin, E_bin1, E_bin1x, E_bin2, E_bin2x, E_opt, E_un, E_un1, E_un1x, E_nil, E_cons, E_cons1, E_cons1x, E_cons2, E_cons2x, E_aF, E_tB, E_fB, E_fBx, E_tT, E_fT, E_fTx, E_selt, E_self, E_if, E_ifx, E_rOk, E_tAnd, E_tOr, E_tNot, E_fNotR, E_fNotRx, E_and, E_and1, E_and1x, E_or, E_or1, E_or1x, E_not, E_not1, E_not1x, E_eIf, E_selT, E_call, E_call1, E_call1x, E_to, E_tox, E_callN, E_callN1, E_toN, E_callH, E_ifOwn, E_callH1, E_callH2, E_toH, E_ixO, E_ixO1, E_ixO2, E_move, E_move1, E_ownA, E_ownA1, E_ownV, E_varV, E_seq, E_then, E_thenr, E_thenx, E_thenb, E_thenc, E_seqN, E_thenN, E_next, E_brk, E_ct, E_expr, E_expr1, E_expr1x, E_set, E_set1, E_set1x, E_ret, E_ret1, E_ret1x, E_retN, E_ifS, E_ifS1, E_ifS1x, E_asg, E_asg1, E_asg1x, E_asg2, E_nm, E_nilG, E_consG, E_obind, E_tupG2, E_tupG3, E_tupG4, E_par, E_par1, E_app, E_ifOwnS, E_app1, E_app1x, E_app20, E_app2, E_setIx, E_SI1, E_SI2, E_SI3, E_SI4, E_for, E_for1, E_for1x, E_items, E_items1, E_itL, E_itS, E_itT, E_rng1, E_rng11, E_rng2, E_rng21, E_lc, E_lc1, E_lc1x, E_lc2, E_runF, E_runr, E_runn, E_runx, E_runN, E_runNr, E_runH, E_runHr, E_runHn, E_runH2, E_raise1, E_R1, E_raise2, E_R2, E_R22, E_raise0, E_try, E_try1, E_tryr, E_tryx, E_try2, E_try2f, E_beh, E_behr, E_behb, E_behc, E_sl, E_sl1, E_sl2, E_sl3, E_sl3t, E_oN, E_oS, E_oS1, E_ch, E_ch1, E_ch2, E_ch3t, E_ch3f, E_ch4, E_enum, E_enum1, E_zip, E_zip1, E_zip1t, E_add, E_sub, E_neg, E_lt, E_le, E_gt, E_ge, E_eq, E_ne, E_mod, E_trI, E_trB, E_trN, E_trL, E_trT, E_lenL, E_lenT, E_lenS, E_listS, E_intB, E_intI, E_abs, E_listL, E_listT, E_tupleL, E_tupleT, E_dTup0, E_dTup1, E_dTup2, E_dTup3, E_dTup4, E_dTup5, E_dTup6, E_dTup7, E_dTup8, E_dTup9, E_dTup10, E_dTup11, E_dTup12, E_dLst0, E_dLst1, E_dLst2, E_dLst3, E_dLst4, E_dLst5, E_dLst6, E_dLst7, E_dLst8, E_dLst9, E_dLst10, E_dLst11, E_dLst12, E_gcd, E_isNnon, E_notN, E_isB, E_notB, E_ixL, E_ixT, E_at0, E_at1, E_at2, E_at3, E_at4, E_at5, E_isi_int_N, E_isi_int_B, E_isi_int_I, E_isi_int_S, E_isi_int_T, E_isi_int_L, E_isi_int_C, E_isi_bool_N, E_isi_bool_B, E_isi_bool_I, E_isi_bool_S, E_isi_bool_T, E_isi_bool_L, E_isi_bool_C, E_isi_str_N, E_isi_str_B, E_isi_str_I, E_isi_str_S, E_isi_str_T, E_isi_str_L, E_isi_str_C, E_isi_list_N, E_isi_list_B, E_isi_list_I, E_isi_list_S, E_isi_list_T, E_isi_list_L, E_isi_list_C, E_isi_tuple_N, E_isi_tuple_B, E_isi_tuple_I, E_isi_tuple_S, E_isi_tuple_T, E_isi_tuple_L, E_isi_tuple_C, E_isi2_N, E_isi2_B, E_isi2_I, E_isi2_S, E_isi2_T, E_isi2_L, E_isi2_C, E_isN_B, E_notN_B, E_isN_I, E_notN_I, E_isN_S, E_notN_S, E_isN_T, E_notN_T, E_isN_L, E_notN_L, E_isN_C, E_notN_C, E_isa1, E_isa2, E_lk1, E_xf, E_fam, E_mul, E_fdiv, E_ixN, E_decT, E_decF, List.getElem?_cons_zero, List.getElem?_cons_succ, List.set_cons_zero, List.set_cons_succ, List.length_cons, List.length_nil, List.length_map, List.append_nil, List.cons_append, List.nil_append, entry, List.map_cons, List.map_nil, List.replicate_succ, List.replicate_zero, Nat.reduceAdd, Nat.reduceSub, Nat.reduceLT, Nat.reduceLeDiff, Nat.reduceEqDiff, Nat.zero_add, ↓reduceIte, decide_true, decide_false, Bool.not_true, Bool.not_false, eq_self, ne_eq, not_true_eq_false, not_false_eq_true, Int.reduceEq, Int.reduceToNat, Int.toNat_natCast, Int.reduceNe, Int.reduceLT, Int.reduceLE, Int.reduceNeg, Nat.reduceLeDiff, if_true, if_false, decide_not, Bool.true_and, Bool.and_true, Bool.false_and, Bool.and_false, Bool.not_not, reduceCtorEq, restE, wipeE, Option.getD_some, Option.getD_none, es, eb, em1, em2, et] <;> rfl)
      · exfalso
        omega
    rw [st]
    have val : t2 * s2 ^ q = t * s ^ M := by
      have eM : M = 2 * q + M % 2 := by omega
      by_cases hz : 0 < q
      · rw [hs2, if_pos hz, sqpow]
        rcases Nat.mod_two_eq_zero_or_one M with h | h
        · rw [ht2, if_neg (by omega)]; rw [h] at eM; rw [eM]; rfl
        · rw [ht2, if_pos h]
          rw [h] at eM
          rw [eM, Int.pow_succ, Int.mul_assoc, Int.mul_comm s]
      · have q0 : q = 0 := by omega
        have M1 : M = 1 := by omega
        rw [q0, M1, Int.pow_zero, Int.mul_one, ht2, M1]
        simp [Int.pow_succ]
    obtain ⟨s', ih⟩ := powWhile (x := x) (y := y) n q t2 s2 (if M % 2 = 1 then kt + ks else kt) (if 0 < q then ks + ks else ks) hqn
      (by rw [ht2]; split <;> first | exact ht.mul hs | exact ht) (by rw [hs2]; split <;> first | exact hs.mul hs | exact hs)
      (by
        have eM : M = 2 * q + M % 2 := by omega
        have e2 : ks * M = ks * (2 * q) + ks * (M % 2) := by rw [← Nat.mul_add, ← eM]
        have e3 : ks * (2 * q) = ks * q + ks * q := by rw [show 2 * q = q + q by omega, Nat.mul_add]
        by_cases hz : 0 < q
        · rw [if_pos hz, Nat.add_mul]
          rcases Nat.mod_two_eq_zero_or_one M with h | h
          · rw [if_neg (by omega)]; rw [h] at e2; omega
          · rw [if_pos h]; rw [h] at e2; omega
        · have q0 : q = 0 := by omega
          rw [q0, Nat.mul_zero]
          split <;> omega)
    refine ⟨s', ?_⟩
    rw [← val]
    exact ih
theorem pl_wpower {base : Int} {e : Nat} (hb : Bd 140 base) (e1 : e < 13) : f_whole_power [.int base, .int e] = .ok (.int (base ^ e)) := by
  obtain ⟨s', h⟩ := powWhile (x := .int base) (y := .int e) 4 e 1 base 1 140 (by omega) (bd_of (N := 2) (by decide) (by decide) (by decide)) hb (by omega)
  have h2 := sWhile_of h
  rw [Int.one_mul] at h2
  unfold f_whole_power m_whole_power
  (simp (disch := first | omega | assumption | (simp only [List.length_cons, List.length_nil, List.length_map, List.length_append, List.length_set]; omega) | (simp only [List.getElem?_cons_zero, List.getElem?_cons_succ]; done)) only [E_c, E_var, E_own, E_bin, E_bin1, E_bin1x, E_bin2, E_bin2x, E_opt, E_un, E_un1, E_un1x, E_nil, E_cons, E_cons1, E_cons1x, E_cons2, E_cons2x, E_aF, E_tB, E_fB, E_fBx, E_tT, E_fT, E_fTx, E_selt, E_self, E_if, E_ifx, E_rOk, E_tAnd, E_tOr, E_tNot, E_fNotR, E_fNotRx, E_and, E_and1, E_and1x, E_or, E_or1, E_or1x, E_not, E_not1, E_not1x, E_eIf, E_selT, E_call, E_call1, E_call1x, E_to, E_tox, E_callN, E_callN1, E_toN, E_callH, E_ifOwn, E_callH1, E_callH2, E_toH, E_ixO, E_ixO1, E_ixO2, E_move, E_move1, E_ownA, E_ownA1, E_ownV, E_varV, E_seq, E_then, E_thenr, E_thenx, E_thenb, E_thenc, E_seqN, E_thenN, E_next, E_brk, E_ct, E_expr, E_expr1, E_expr1x, E_set, E_set1, E_set1x, E_ret, E_ret1, E_ret1x, E_retN, E_ifS, E_ifS1, E_ifS1x, E_asg, E_asg1, E_asg1x, E_asg2, E_nm, E_nilG, E_consG, E_obind, E_tupG2, E_tupG3, E_tupG4, E_par, E_par1, E_app, E_ifOwnS, E_app1, E_app1x, E_app20, E_app2, E_setIx, E_SI1, E_SI2, E_SI3, E_SI4, E_for, E_for1, E_for1x, E_items, E_items1, E_itL, E_itS, E_itT, E_rng1, E_rng11, E_rng2, E_rng21, E_lc, E_lc1, E_lc1x, E_lc2, E_runF, E_runr, E_runn, E_runx, E_runN, E_runNr, E_runH, E_runHr, E_runHn, E_runH2, E_raise1, E_R1, E_raise2, E_R2, E_R22, E_raise0, E_try, E_try1, E_tryr, E_tryx, E_try2, E_try2f, E_beh, E_behr, E_behb, E_behc, E_sl, E_sl1, E_sl2, E_sl3, E_sl3t, E_oN, E_oS, E_oS1, E_ch, E_ch1, E_ch2, E_ch3t, E_ch3f, E_ch4, E_enum, E_enum1, E_zip, E_zip1, E_zip1t, E_add, E_sub, E_neg, E_lt, E_le, E_gt, E_ge, E_eq, E_ne, E_mod, E_trI, E_trB, E_trN, E_trL, E_trT, E_lenL, E_lenT, E_lenS, E_listS, E_intB, E_intI, E_abs, E_listL, E_listT, E_tupleL, E_tupleT, E_dTup0, E_dTup1, E_dTup2, E_dTup3, E_dTup4, E_dTup5, E_dTup6, E_dTup7, E_dTup8, E_dTup9, E_dTup10, E_dTup11, E_dTup12, E_dLst0, E_dLst1, E_dLst2, E_dLst3, E_dLst4, E_dLst5, E_dLst6, E_dLst7, E_dLst8, E_dLst9, E_dLst10, E_dLst11, E_dLst12, E_gcd, E_isNnon, E_notN, E_isB, E_notB, E_ixL, E_ixT, E_at0, E_at1, E_at2, E_at3, E_at4, E_at5, E_isi_int_N, E_isi_int_B, E_isi_int_I, E_isi_int_S, E_isi_int_T, E_isi_int_L, E_isi_int_C, E_isi_bool_N, E_isi_bool_B, E_isi_bool_I, E_isi_bool_S, E_isi_bool_T, E_isi_bool_L, E_isi_bool_C, E_isi_str_N, E_isi_str_B, E_isi_str_I, E_isi_str_S, E_isi_str_T, E_isi_str_L, E_isi_str_C, E_isi_list_N, E_isi_list_B, E_isi_list_I, E_isi_list_S, E_isi_list_T, E_isi_list_L, E_isi_list_C, E_isi_tuple_N, E_isi_tuple_B, E_isi_tuple_I, E_isi_tuple_S, E_isi_tuple_T, E_isi_tuple_L, E_isi_tuple_C, E_isi2_N, E_isi2_B, E_isi2_I, E_isi2_S, E_isi2_T, E_isi2_L, E_isi2_C, E_isN_B, E_notN_B, E_isN_I, E_notN_I, E_isN_S, E_notN_S, E_isN_T, E_notN_T, E_isN_L, E_notN_L, E_isN_C, E_notN_C, E_isa1, E_isa2, E_lk1, E_xf, E_fam, E_mul, E_fdiv, E_ixN, E_decT, E_decF, List.getElem?_cons_zero, List.getElem?_cons_succ, List.set_cons_zero, List.set_cons_succ, List.length_cons, List.length_nil, List.length_map, List.append_nil, List.cons_append, List.nil_append, entry, List.map_cons, List.map_nil, List.replicate_succ, List.replicate_zero, Nat.reduceAdd, Nat.reduceSub, Nat.reduceLT, Nat.reduceLeDiff, Nat.reduceEqDiff, Nat.zero_add, ↓reduceIte, decide_true, decide_false, Bool.not_true, Bool.not_false, eq_self, ne_eq, not_true_eq_false, not_false_eq_true, Int.reduceEq, Int.reduceToNat, Int.toNat_natCast, Int.reduceNe, Int.reduceLT, Int.reduceLE, Int.reduceNeg, Nat.reduceLeDiff, if_true, if_false, decide_not, Bool.true_and, Bool.and_true, Bool.false_and, Bool.and_false, Bool.not_not, reduceCtorEq, restE, wipeE, Option.getD_some, Option.getD_none, h2] <;> rfl)
theorem powers_go {l l1 l2 : List D} {x y n : Int} (e1 : f__law_sized l [] = Rf.ok (.int x, l1)) (e2 : f__law_take l1 [.int 13] = .ok (.int n, l2)) (ep : f_whole_power [.int x, .int n] = .ok (.int y))
  (ei : ∀ z : Int, f__law_int [.int z] = .ok (.bl true)) (w0 : f__law_power [.int x, .int n] = .ok (.int y)) (w1 : f_whole_power [.int 0, .int 0] = .ok (.int 1)) (w2 : f_whole_power [.int 0, .int 3] = .ok (.int 0)) : f__law_powers l [] = .ok (.bl true, l2) := by
  unfold f__law_powers m__law_powers
  simp (disch := first | omega | assumption | (simp only [List.length_cons, List.length_nil, List.length_map, List.length_append, List.length_set]; omega) | (simp only [List.getElem?_cons_zero, List.getElem?_cons_succ]; done)) only [E_c, E_var, E_own, E_bin, E_bin1, E_bin1x, E_bin2, E_bin2x, E_opt, E_un, E_un1, E_un1x, E_nil, E_cons, E_cons1, E_cons1x, E_cons2, E_cons2x, E_aF, E_tB, E_fB, E_fBx, E_tT, E_fT, E_fTx, E_selt, E_self, E_if, E_ifx, E_rOk, E_tAnd, E_tOr, E_tNot, E_fNotR, E_fNotRx, E_and, E_and1, E_and1x, E_or, E_or1, E_or1x, E_not, E_not1, E_not1x, E_eIf, E_selT, E_call, E_call1, E_call1x, E_to, E_tox, E_callN, E_callN1, E_toN, E_callH, E_ifOwn, E_callH1, E_callH2, E_toH, E_ixO, E_ixO1, E_ixO2, E_move, E_move1, E_ownA, E_ownA1, E_ownV, E_varV, E_seq, E_then, E_thenr, E_thenx, E_thenb, E_thenc, E_seqN, E_thenN, E_next, E_brk, E_ct, E_expr, E_expr1, E_expr1x, E_set, E_set1, E_set1x, E_ret, E_ret1, E_ret1x, E_retN, E_ifS, E_ifS1, E_ifS1x, E_asg, E_asg1, E_asg1x, E_asg2, E_nm, E_nilG, E_consG, E_obind, E_tupG2, E_tupG3, E_tupG4, E_par, E_par1, E_app, E_ifOwnS, E_app1, E_app1x, E_app20, E_app2, E_setIx, E_SI1, E_SI2, E_SI3, E_SI4, E_for, E_for1, E_for1x, E_items, E_items1, E_itL, E_itS, E_itT, E_rng1, E_rng11, E_rng2, E_rng21, E_lc, E_lc1, E_lc1x, E_lc2, E_runF, E_runr, E_runn, E_runx, E_runN, E_runNr, E_runH, E_runHr, E_runHn, E_runH2, E_raise1, E_R1, E_raise2, E_R2, E_R22, E_raise0, E_try, E_try1, E_tryr, E_tryx, E_try2, E_try2f, E_beh, E_behr, E_behb, E_behc, E_sl, E_sl1, E_sl2, E_sl3, E_sl3t, E_oN, E_oS, E_oS1, E_ch, E_ch1, E_ch2, E_ch3t, E_ch3f, E_ch4, E_enum, E_enum1, E_zip, E_zip1, E_zip1t, E_add, E_sub, E_neg, E_lt, E_le, E_gt, E_ge, E_eq, E_ne, E_mod, E_trI, E_trB, E_trN, E_trL, E_trT, E_lenL, E_lenT, E_lenS, E_listS, E_intB, E_intI, E_abs, E_listL, E_listT, E_tupleL, E_tupleT, E_dTup0, E_dTup1, E_dTup2, E_dTup3, E_dTup4, E_dTup5, E_dTup6, E_dTup7, E_dTup8, E_dTup9, E_dTup10, E_dTup11, E_dTup12, E_dLst0, E_dLst1, E_dLst2, E_dLst3, E_dLst4, E_dLst5, E_dLst6, E_dLst7, E_dLst8, E_dLst9, E_dLst10, E_dLst11, E_dLst12, E_gcd, E_isNnon, E_notN, E_isB, E_notB, E_ixL, E_ixT, E_at0, E_at1, E_at2, E_at3, E_at4, E_at5, E_isi_int_N, E_isi_int_B, E_isi_int_I, E_isi_int_S, E_isi_int_T, E_isi_int_L, E_isi_int_C, E_isi_bool_N, E_isi_bool_B, E_isi_bool_I, E_isi_bool_S, E_isi_bool_T, E_isi_bool_L, E_isi_bool_C, E_isi_str_N, E_isi_str_B, E_isi_str_I, E_isi_str_S, E_isi_str_T, E_isi_str_L, E_isi_str_C, E_isi_list_N, E_isi_list_B, E_isi_list_I, E_isi_list_S, E_isi_list_T, E_isi_list_L, E_isi_list_C, E_isi_tuple_N, E_isi_tuple_B, E_isi_tuple_I, E_isi_tuple_S, E_isi_tuple_T, E_isi_tuple_L, E_isi_tuple_C, E_isi2_N, E_isi2_B, E_isi2_I, E_isi2_S, E_isi2_T, E_isi2_L, E_isi2_C, E_isN_B, E_notN_B, E_isN_I, E_notN_I, E_isN_S, E_notN_S, E_isN_T, E_notN_T, E_isN_L, E_notN_L, E_isN_C, E_notN_C, E_isa1, E_isa2, E_lk1, E_xf, E_fam, E_mul, E_fdiv, E_ixN, E_decT, E_decF, List.getElem?_cons_zero, List.getElem?_cons_succ, List.set_cons_zero, List.set_cons_succ, List.length_cons, List.length_nil, List.length_map, List.append_nil, List.cons_append, List.nil_append, entry, List.map_cons, List.map_nil, List.replicate_succ, List.replicate_zero, Nat.reduceAdd, Nat.reduceSub, Nat.reduceLT, Nat.reduceLeDiff, Nat.reduceEqDiff, Nat.zero_add, ↓reduceIte, decide_true, decide_false, Bool.not_true, Bool.not_false, eq_self, ne_eq, not_true_eq_false, not_false_eq_true, Int.reduceEq, Int.reduceToNat, Int.toNat_natCast, Int.reduceNe, Int.reduceLT, Int.reduceLE, Int.reduceNeg, Nat.reduceLeDiff, if_true, if_false, decide_not, Bool.true_and, Bool.and_true, Bool.false_and, Bool.and_false, Bool.not_not, reduceCtorEq, restE, wipeE, Option.getD_some, Option.getD_none, w1, w2, w0, e1, e2, ei, ep]
theorem pl_powers {l : List D} (g : Good l) : ∃ l', f__law_powers l [] = .ok (.bl true, l') ∧ Good l' := by
  obtain ⟨x, l1, e1, hx, g1⟩ := pl_sized g
  obtain ⟨i, l2, e2, i0, i1, g2⟩ := pl_take g1 (many := 13) (by decide) (bd_of (N := 14) (by omega) (by omega) (by decide))
  obtain ⟨n, rfl⟩ : ∃ n : Nat, i = n := ⟨i.toNat, by omega⟩
  have ep := pl_wpower (base := x) (e := n) hx (by omega)
  have el := pl_lpower (base := x) (e := n) hx i0 i1
  have en : ((n : Int)).toNat = n := by omega
  rw [en] at el
  have z1 := pl_wpower (base := 0) (e := 0) (bd_of (N := 2) (by decide) (by decide) (by decide)) (by decide)
  have z2 := pl_wpower (base := 0) (e := 3) (bd_of (N := 2) (by decide) (by decide) (by decide)) (by decide)
  have w1 : f_whole_power [.int 0, .int 0] = .ok (.int 1) := z1
  have w2 : f_whole_power [.int 0, .int 3] = .ok (.int 0) := z2
  have ei : ∀ z : Int, f__law_int [.int z] = .ok (.bl true) := fun z => rfl
  exact ⟨l2, powers_go e1 e2 ep ei el w1 w2, g2⟩
end Law

set_option Elab.async false
set_option linter.all false
set_option maxRecDepth 100000
set_option maxHeartbeats 4000000
noncomputable section
namespace Law
open PySem L2 Py
def toD (rs : List (Int × Int)) : List D := rs.map fun p => R2 p.1 p.2
def RowOk (rs : List (Int × Int)) : Prop := ∀ p ∈ rs, 1 ≤ p.2 ∧ Bd 140 p.1 ∧ Bd 140 p.2
theorem rowsLc {x1 x2 x3 x4 : Option D} : ∀ (ds acc : List D) (l : List D) (z : Option D), Good l → ∃ rs l' z', lcL (nmG 5) lYes e1__law_rows [5] ds acc [some (.lst l), x1, x2, x3, x4, z] = .ok (acc ++ toD rs) [some (.lst l'), x1, x2, x3, x4, z'] ∧ rs.length = ds.length ∧ RowOk rs ∧ Good l'
  | [], acc, l, z, g => ⟨[], l, z, by rw [show toD [] = [] from rfl, List.append_nil]; rfl, rfl, (fun p h => by cases h), g⟩
  | d :: ds, acc, l, z, g => by
    obtain ⟨n, b, l1, e1, b1, _, hn, hb, g1⟩ := pl_drawn g
    obtain ⟨rs, l', z', e2, hl, ho, g2⟩ := rowsLc (x1 := x1) (x2 := x2) (x3 := x3) (x4 := x4) ds (acc ++ [R2 n b]) l1 (some d) g1
    refine ⟨(n, b) :: rs, l', z', ?_, by rw [List.length_cons, List.length_cons, hl], ?_, g2⟩
    · have st : e1__law_rows [some (.lst l), x1, x2, x3, x4, some d] = .ok (R2 n b) [some (.lst l1), x1, x2, x3, x4, some d] := by
        unfold e1__law_rows
        exact eCallH_of rfl rfl rfl rfl e1
      have s2 := lcL_go (mg := nmG 5) (vs := [5]) (d := d) (ds := ds) (acc := acc) (ρ := [some (.lst l), x1, x2, x3, x4, z]) rfl st
      rw [s2, e2]
      simp [toD]
    · intro p hp
      rcases List.mem_cons.mp hp with rfl | hp
      · exact ⟨b1, hn, hb⟩
      · exact ho p hp
theorem sumLoop : ∀ (rs : List (Int × Int)) (n d : Int) (k : Nat), RowOk rs → 1 ≤ d → Bd k n → Bd k d → 140 ≤ k → k + 141 * rs.length ≤ 1400 →
    ∃ N E, (∀ x z, ∃ z', forL (nmG 2) l1_sum_ratios (toD rs) [x, some (R2 n d), z] = .nx [x, some (R2 N E), z']) ∧ (∀ x z, ∃ z', forL (nmG 2) l1__law_total (toD rs) [x, some (R2 n d), z] = .nx [x, some (R2 N E), z'])
  | [], n, d, k, _, _, _, _, _, _ => ⟨n, d, fun x z => ⟨z, rfl⟩, fun x z => ⟨z, rfl⟩⟩
  | (a, b) :: rs, n, d, k, hr, hd, hn, hdd, hk0, hk => by
    rw [List.length_cons] at hk
    obtain ⟨b1, ha, hb⟩ := hr (a, b) List.mem_cons_self
    have b1 : 1 ≤ b := b1
    have ha : Bd 140 a := ha
    have hb : Bd 140 b := hb
    have e1 := pl_add (hn.mono (by omega)) (hdd.mono (by omega)) (ha.mono (by omega)) (hb.mono (by omega)) (by omega) (show b ≠ 0 by omega)
    have e2 := pl_plus (hn.mono (by omega)) (hdd.mono (by omega)) (ha.mono (by omega)) (hb.mono (by omega)) (by omega) (show b ≠ 0 by omega)
    have q1 : Bd (k + 141) (n * b + a * d) := by
      have h1 := hn.mul hb
      have h2 := ha.mul hdd
      exact ((h1.add (h2.mono (show 140 + k ≤ k + 140 by omega))).mono (by omega))
    have q2 : Bd (k + 141) (d * b) := (hdd.mul hb).mono (by omega)
    obtain ⟨N, E, en, E1, _, hN, hE⟩ := lw_isR (Int.mul_ne_zero (show d ≠ 0 by omega) (show b ≠ 0 by omega)) q1 q2
    rw [en] at e1 e2
    obtain ⟨N', E', i1, i2⟩ := sumLoop rs N E (k + 141) (fun p hp => hr p (List.mem_cons_of_mem _ hp)) E1 hN hE (by omega) (by omega)
    refine ⟨N', E', fun x z => ?_, fun x z => ?_⟩
    · obtain ⟨z', h⟩ := i1 x (some (R2 a b))
      refine ⟨z', ?_⟩
      have st : l1_sum_ratios [x, some (R2 n d), some (R2 a b)] = .nx [x, some (R2 N E), some (R2 a b)] := by
        unfold l1_sum_ratios
        (simp (disch := first | omega | assumption | (simp only [List.length_cons, List.length_nil, List.length_map, List.length_append, List.length_set]; omega)) only [E_c, E_var, E_own, E_bin, E_bin1, E_bin1x, E_bin2, E_bin2x, E_opt, E_un, E_un1, E_un1x, E_nil, E_cons, E_cons1, E_cons1x, E_cons2, E_cons2x, E_aF, E_tB, E_fB, E_fBx, E_tT, E_fT, E_fTx, E_selt, E_self, E_if, E_ifx, E_rOk, E_tAnd, E_tOr, E_tNot, E_fNotR, E_fNotRx, E_and, E_and1, E_and1x, E_or, E_or1, E_or1x, E_not, E_not1, E_not1x, E_eIf, E_selT, E_call, E_call1, E_call1x, E_to, E_tox, E_callN, E_callN1, E_toN, E_callH, E_ifOwn, E_callH1, E_callH2, E_toH, E_ixO, E_ixO1, E_ixO2, E_move, E_move1, E_ownA, E_ownA1, E_ownV, E_varV, E_seq, E_then, E_thenr, E_thenx, E_thenb, E_thenc, E_seqN, E_thenN, E_next, E_brk, E_ct, E_expr, E_expr1, E_expr1x, E_set, E_set1, E_set1x, E_ret, E_ret1, E_ret1x, E_retN, E_ifS, E_ifS1, E_ifS1x, E_asg, E_asg1, E_asg1x, E_asg2, E_nm, E_nilG, E_consG, E_obind, E_tupG2, E_tupG3, E_tupG4, E_par, E_par1, E_app, E_ifOwnS, E_app1, E_app1x, E_app20, E_app2, E_setIx, E_SI1, E_SI2, E_SI3, E_SI4, E_for, E_for1, E_for1x, E_items, E_items1, E_itL, E_itS, E_itT, E_rng1, E_rng11, E_rng2, E_rng21, E_lc, E_lc1, E_lc1x, E_lc2, E_runF, E_runr, E_runn, E_runx, E_runN, E_runNr, E_runH, E_runHr, E_runHn, E_runH2, E_raise1, E_R1, E_raise2, E_R2, E_R22, E_raise0, E_try, E_try1, E_tryr, E_tryx, E_try2, E_try2f, E_beh, E_behr, E_behb, E_behc, E_sl, E_sl1, E_sl2, E_sl3, E_sl3t, E_oN, E_oS, E_oS1, E_ch, E_ch1, E_ch2, E_ch3t, E_ch3f, E_ch4, E_enum, E_enum1, E_zip, E_zip1, E_zip1t, E_add, E_sub, E_neg, E_lt, E_le, E_gt, E_ge, E_eq, E_ne, E_mod, E_trI, E_trB, E_trN, E_trL, E_trT, E_lenL, E_lenT, E_lenS, E_listS, E_intB, E_intI, E_abs, E_listL, E_listT, E_tupleL, E_tupleT, E_dTup0, E_dTup1, E_dTup2, E_dTup3, E_dTup4, E_dTup5, E_dTup6, E_dTup7, E_dTup8, E_dTup9, E_dTup10, E_dTup11, E_dTup12, E_dLst0, E_dLst1, E_dLst2, E_dLst3, E_dLst4, E_dLst5, E_dLst6, E_dLst7, E_dLst8, E_dLst9, E_dLst10, E_dLst11, E_dLst12, E_gcd, E_isNnon, E_notN, E_isB, E_notB, E_ixL, E_ixT, E_at0, E_at1, E_at2, E_at3, E_at4, E_at5, E_isi_int_N, E_isi_int_B, E_isi_int_I, E_isi_int_S, E_isi_int_T, E_isi_int_L, E_isi_int_C, E_isi_bool_N, E_isi_bool_B, E_isi_bool_I, E_isi_bool_S, E_isi_bool_T, E_isi_bool_L, E_isi_bool_C, E_isi_str_N, E_isi_str_B, E_isi_str_I, E_isi_str_S, E_isi_str_T, E_isi_str_L, E_isi_str_C, E_isi_list_N, E_isi_list_B, E_isi_list_I, E_isi_list_S, E_isi_list_T, E_isi_list_L, E_isi_list_C, E_isi_tuple_N, E_isi_tuple_B, E_isi_tuple_I, E_isi_tuple_S, E_isi_tuple_T, E_isi_tuple_L, E_isi_tuple_C, E_isi2_N, E_isi2_B, E_isi2_I, E_isi2_S, E_isi2_T, E_isi2_L, E_isi2_C, E_isN_B, E_notN_B, E_isN_I, E_notN_I, E_isN_S, E_notN_S, E_isN_T, E_notN_T, E_isN_L, E_notN_L, E_isN_C, E_notN_C, E_isa1, E_isa2, E_lk1, E_xf, E_fam, E_mul, E_fdiv, E_ixN, E_decT, E_decF, List.getElem?_cons_zero, List.getElem?_cons_succ, List.set_cons_zero, List.set_cons_succ, List.length_cons, List.length_nil, List.length_map, List.append_nil, List.cons_append, List.nil_append, entry, List.map_cons, List.map_nil, List.replicate_succ, List.replicate_zero, Nat.reduceAdd, Nat.reduceSub, Nat.reduceLT, Nat.reduceLeDiff, Nat.reduceEqDiff, Nat.zero_add, ↓reduceIte, decide_true, decide_false, Bool.not_true, Bool.not_false, eq_self, ne_eq, not_true_eq_false, not_false_eq_true, Int.reduceEq, Int.reduceToNat, Int.toNat_natCast, Int.reduceNe, Int.reduceLT, Int.reduceLE, Int.reduceNeg, Nat.reduceLeDiff, if_true, if_false, decide_not, Bool.true_and, Bool.and_true, Bool.false_and, Bool.and_false, Bool.not_not, reduceCtorEq, e1] <;> rfl)
      rw [← h]
      show (match l1_sum_ratios [x, some (R2 n d), some (R2 a b)] with | .nx ρ2 => forL (nmG 2) l1_sum_ratios (toD rs) ρ2 | .ct ρ2 => forL (nmG 2) l1_sum_ratios (toD rs) ρ2 | .brk ρ2 => .nx ρ2 | .ret d ρ2 => .ret d ρ2 | .exc e ρ2 => .exc e ρ2 | .stuck => .stuck) = _
      rw [st]
    · obtain ⟨z', h⟩ := i2 x (some (R2 a b))
      refine ⟨z', ?_⟩
      have st : l1__law_total [x, some (R2 n d), some (R2 a b)] = .nx [x, some (R2 N E), some (R2 a b)] := by
        unfold l1__law_total
        (simp (disch := first | omega | assumption | (simp only [List.length_cons, List.length_nil, List.length_map, List.length_append, List.length_set]; omega)) only [E_c, E_var, E_own, E_bin, E_bin1, E_bin1x, E_bin2, E_bin2x, E_opt, E_un, E_un1, E_un1x, E_nil, E_cons, E_cons1, E_cons1x, E_cons2, E_cons2x, E_aF, E_tB, E_fB, E_fBx, E_tT, E_fT, E_fTx, E_selt, E_self, E_if, E_ifx, E_rOk, E_tAnd, E_tOr, E_tNot, E_fNotR, E_fNotRx, E_and, E_and1, E_and1x, E_or, E_or1, E_or1x, E_not, E_not1, E_not1x, E_eIf, E_selT, E_call, E_call1, E_call1x, E_to, E_tox, E_callN, E_callN1, E_toN, E_callH, E_ifOwn, E_callH1, E_callH2, E_toH, E_ixO, E_ixO1, E_ixO2, E_move, E_move1, E_ownA, E_ownA1, E_ownV, E_varV, E_seq, E_then, E_thenr, E_thenx, E_thenb, E_thenc, E_seqN, E_thenN, E_next, E_brk, E_ct, E_expr, E_expr1, E_expr1x, E_set, E_set1, E_set1x, E_ret, E_ret1, E_ret1x, E_retN, E_ifS, E_ifS1, E_ifS1x, E_asg, E_asg1, E_asg1x, E_asg2, E_nm, E_nilG, E_consG, E_obind, E_tupG2, E_tupG3, E_tupG4, E_par, E_par1, E_app, E_ifOwnS, E_app1, E_app1x, E_app20, E_app2, E_setIx, E_SI1, E_SI2, E_SI3, E_SI4, E_for, E_for1, E_for1x, E_items, E_items1, E_itL, E_itS, E_itT, E_rng1, E_rng11, E_rng2, E_rng21, E_lc, E_lc1, E_lc1x, E_lc2, E_runF, E_runr, E_runn, E_runx, E_runN, E_runNr, E_runH, E_runHr, E_runHn, E_runH2, E_raise1, E_R1, E_raise2, E_R2, E_R22, E_raise0, E_try, E_try1, E_tryr, E_tryx, E_try2, E_try2f, E_beh, E_behr, E_behb, E_behc, E_sl, E_sl1, E_sl2, E_sl3, E_sl3t, E_oN, E_oS, E_oS1, E_ch, E_ch1, E_ch2, E_ch3t, E_ch3f, E_ch4, E_enum, E_enum1, E_zip, E_zip1, E_zip1t, E_add, E_sub, E_neg, E_lt, E_le, E_gt, E_ge, E_eq, E_ne, E_mod, E_trI, E_trB, E_trN, E_trL, E_trT, E_lenL, E_lenT, E_lenS, E_listS, E_intB, E_intI, E_abs, E_listL, E_listT, E_tupleL, E_tupleT, E_dTup0, E_dTup1, E_dTup2, E_dTup3, E_dTup4, E_dTup5, E_dTup6, E_dTup7, E_dTup8, E_dTup9, E_dTup10, E_dTup11, E_dTup12, E_dLst0, E_dLst1, E_dLst2, E_dLst3, E_dLst4, E_dLst5, E_dLst6, E_dLst7, E_dLst8, E_dLst9, E_dLst10, E_dLst11, E_dLst12, E_gcd, E_isNnon, E_notN, E_isB, E_notB, E_ixL, E_ixT, E_at0, E_at1, E_at2, E_at3, E_at4, E_at5, E_isi_int_N, E_isi_int_B, E_isi_int_I, E_isi_int_S, E_isi_int_T, E_isi_int_L, E_isi_int_C, E_isi_bool_N, E_isi_bool_B, E_isi_bool_I, E_isi_bool_S, E_isi_bool_T, E_isi_bool_L, E_isi_bool_C, E_isi_str_N, E_isi_str_B, E_isi_str_I, E_isi_str_S, E_isi_str_T, E_isi_str_L, E_isi_str_C, E_isi_list_N, E_isi_list_B, E_isi_list_I, E_isi_list_S, E_isi_list_T, E_isi_list_L, E_isi_list_C, E_isi_tuple_N, E_isi_tuple_B, E_isi_tuple_I, E_isi_tuple_S, E_isi_tuple_T, E_isi_tuple_L, E_isi_tuple_C, E_isi2_N, E_isi2_B, E_isi2_I, E_isi2_S, E_isi2_T, E_isi2_L, E_isi2_C, E_isN_B, E_notN_B, E_isN_I, E_notN_I, E_isN_S, E_notN_S, E_isN_T, E_notN_T, E_isN_L, E_notN_L, E_isN_C, E_notN_C, E_isa1, E_isa2, E_lk1, E_xf, E_fam, E_mul, E_fdiv, E_ixN, E_decT, E_decF, List.getElem?_cons_zero, List.getElem?_cons_succ, List.set_cons_zero, List.set_cons_succ, List.length_cons, List.length_nil, List.length_map, List.append_nil, List.cons_append, List.nil_append, entry, List.map_cons, List.map_nil, List.replicate_succ, List.replicate_zero, Nat.reduceAdd, Nat.reduceSub, Nat.reduceLT, Nat.reduceLeDiff, Nat.reduceEqDiff, Nat.zero_add, ↓reduceIte, decide_true, decide_false, Bool.not_true, Bool.not_false, eq_self, ne_eq, not_true_eq_false, not_false_eq_true, Int.reduceEq, Int.reduceToNat, Int.toNat_natCast, Int.reduceNe, Int.reduceLT, Int.reduceLE, Int.reduceNeg, Nat.reduceLeDiff, if_true, if_false, decide_not, Bool.true_and, Bool.and_true, Bool.false_and, Bool.and_false, Bool.not_not, reduceCtorEq, e2] <;> rfl)
      rw [← h]
      show (match l1__law_total [x, some (R2 n d), some (R2 a b)] with | .nx ρ2 => forL (nmG 2) l1__law_total (toD rs) ρ2 | .ct ρ2 => forL (nmG 2) l1__law_total (toD rs) ρ2 | .brk ρ2 => .nx ρ2 | .ret d ρ2 => .ret d ρ2 | .exc e ρ2 => .exc e ρ2 | .stuck => .stuck) = _
      rw [st]
theorem lcm_cast {q b : Int} (hq : 1 ≤ q) (hb : 1 ≤ b) : (q * b).fdiv (Int.gcd q b) = ((Nat.lcm q.natAbs b.natAbs : Nat) : Int) := by
  rw [Int.fdiv_eq_ediv_of_nonneg _ (by omega)]
  have e1 : q = (q.natAbs : Int) := by omega
  have e2 : b = (b.natAbs : Int) := by omega
  have e3 : (Int.gcd q b : Int) = ((Nat.gcd q.natAbs b.natAbs : Nat) : Int) := rfl
  rw [e3]
  generalize q.natAbs = m at *
  generalize b.natAbs = n at *
  subst e1 e2
  unfold Nat.lcm
  rw [← Int.natCast_mul, Int.natCast_ediv]
theorem lcmLoop : ∀ (rs : List (Int × Int)) (q : Int) (k : Nat), RowOk rs → 1 ≤ q → Bd k q → k + 140 * rs.length ≤ 1400 →
    ∃ Q, 1 ≤ Q ∧ Bd 1400 Q ∧ (∀ x z, ∃ z', forL (nmG 2) l1_common_bottom (toD rs) [x, some (.int q), z] = .nx [x, some (.int Q), z']) ∧ (∀ x z, ∃ z', forL (nmG 2) l1__law_tops (toD rs) [x, some (.int q), z] = .nx [x, some (.int Q), z'])
  | [], q, k, _, h1, h2, hk => ⟨q, h1, h2.mono (by simp at hk; omega), fun x z => ⟨z, rfl⟩, fun x z => ⟨z, rfl⟩⟩
  | (a, b) :: rs, q, k, hr, h1, h2, hk => by
    rw [List.length_cons] at hk
    obtain ⟨b1, ha, hb⟩ := hr (a, b) List.mem_cons_self
    have b1 : 1 ≤ b := b1
    have hb : Bd 140 b := hb
    obtain ⟨Q0, hQ0⟩ : ∃ Q0, Q0 = ((Nat.lcm q.natAbs b.natAbs : Nat) : Int) := ⟨_, rfl⟩
    have el : dLcm [.int q, .int b] = some (.int Q0) := by
      have c1 := bits_le h2
      have c2 := bits_le hb
      rw [hQ0]
      exact if_pos ⟨by omega, by omega⟩
    have eg := pl_gcd q b (hb.mono (by decide))
    have g0 := gcd_pos (t := q) (b := b) (by omega)
    have gl := gcd_le (t := q) (b := b) (by omega)
    have gb : Bd 140 (Int.gcd q b) := Nat.lt_of_le_of_lt (by omega) hb
    have em : dMul (.int q) (.int b) = some (.int (q * b)) := dMul_of h2 hb (by omega)
    have ef : dFdiv (.int (q * b)) (.int (Int.gcd q b)) = some (.int Q0) := by rw [dFdiv_of gb (by decide) (by omega), lcm_cast h1 b1, hQ0]
    have Q1 : 1 ≤ Q0 := by
      have : 0 < Nat.lcm q.natAbs b.natAbs := Nat.lcm_pos (by omega) (by omega)
      omega
    have QB : Bd (k + 140) Q0 := by
      have h3 : Nat.lcm q.natAbs b.natAbs ≤ q.natAbs * b.natAbs := by unfold Nat.lcm; exact Nat.div_le_self _ _
      have h4 := h2.mul hb
      unfold Bd at h4 ⊢
      rw [Int.natAbs_mul] at h4
      rw [hQ0, Int.natAbs_natCast]
      omega
    obtain ⟨Q, Q2, Q3, i1, i2⟩ := lcmLoop rs Q0 (k + 140) (fun p hp => hr p (List.mem_cons_of_mem _ hp)) Q1 QB (by omega)
    refine ⟨Q, Q2, Q3, fun x z => ?_, fun x z => ?_⟩
    · obtain ⟨z', h⟩ := i1 x (some (R2 a b))
      refine ⟨z', ?_⟩
      have st : l1_common_bottom [x, some (.int q), some (R2 a b)] = .nx [x, some (.int Q0), some (R2 a b)] := by
        unfold l1_common_bottom
        (simp (disch := first | omega | assumption | (simp only [List.length_cons, List.length_nil, List.length_map, List.length_append, List.length_set]; omega)) only [E_c, E_var, E_own, E_bin, E_bin1, E_bin1x, E_bin2, E_bin2x, E_opt, E_un, E_un1, E_un1x, E_nil, E_cons, E_cons1, E_cons1x, E_cons2, E_cons2x, E_aF, E_tB, E_fB, E_fBx, E_tT, E_fT, E_fTx, E_selt, E_self, E_if, E_ifx, E_rOk, E_tAnd, E_tOr, E_tNot, E_fNotR, E_fNotRx, E_and, E_and1, E_and1x, E_or, E_or1, E_or1x, E_not, E_not1, E_not1x, E_eIf, E_selT, E_call, E_call1, E_call1x, E_to, E_tox, E_callN, E_callN1, E_toN, E_callH, E_ifOwn, E_callH1, E_callH2, E_toH, E_ixO, E_ixO1, E_ixO2, E_move, E_move1, E_ownA, E_ownA1, E_ownV, E_varV, E_seq, E_then, E_thenr, E_thenx, E_thenb, E_thenc, E_seqN, E_thenN, E_next, E_brk, E_ct, E_expr, E_expr1, E_expr1x, E_set, E_set1, E_set1x, E_ret, E_ret1, E_ret1x, E_retN, E_ifS, E_ifS1, E_ifS1x, E_asg, E_asg1, E_asg1x, E_asg2, E_nm, E_nilG, E_consG, E_obind, E_tupG2, E_tupG3, E_tupG4, E_par, E_par1, E_app, E_ifOwnS, E_app1, E_app1x, E_app20, E_app2, E_setIx, E_SI1, E_SI2, E_SI3, E_SI4, E_for, E_for1, E_for1x, E_items, E_items1, E_itL, E_itS, E_itT, E_rng1, E_rng11, E_rng2, E_rng21, E_lc, E_lc1, E_lc1x, E_lc2, E_runF, E_runr, E_runn, E_runx, E_runN, E_runNr, E_runH, E_runHr, E_runHn, E_runH2, E_raise1, E_R1, E_raise2, E_R2, E_R22, E_raise0, E_try, E_try1, E_tryr, E_tryx, E_try2, E_try2f, E_beh, E_behr, E_behb, E_behc, E_sl, E_sl1, E_sl2, E_sl3, E_sl3t, E_oN, E_oS, E_oS1, E_ch, E_ch1, E_ch2, E_ch3t, E_ch3f, E_ch4, E_enum, E_enum1, E_zip, E_zip1, E_zip1t, E_add, E_sub, E_neg, E_lt, E_le, E_gt, E_ge, E_eq, E_ne, E_mod, E_trI, E_trB, E_trN, E_trL, E_trT, E_lenL, E_lenT, E_lenS, E_listS, E_intB, E_intI, E_abs, E_listL, E_listT, E_tupleL, E_tupleT, E_dTup0, E_dTup1, E_dTup2, E_dTup3, E_dTup4, E_dTup5, E_dTup6, E_dTup7, E_dTup8, E_dTup9, E_dTup10, E_dTup11, E_dTup12, E_dLst0, E_dLst1, E_dLst2, E_dLst3, E_dLst4, E_dLst5, E_dLst6, E_dLst7, E_dLst8, E_dLst9, E_dLst10, E_dLst11, E_dLst12, E_gcd, E_isNnon, E_notN, E_isB, E_notB, E_ixL, E_ixT, E_at0, E_at1, E_at2, E_at3, E_at4, E_at5, E_isi_int_N, E_isi_int_B, E_isi_int_I, E_isi_int_S, E_isi_int_T, E_isi_int_L, E_isi_int_C, E_isi_bool_N, E_isi_bool_B, E_isi_bool_I, E_isi_bool_S, E_isi_bool_T, E_isi_bool_L, E_isi_bool_C, E_isi_str_N, E_isi_str_B, E_isi_str_I, E_isi_str_S, E_isi_str_T, E_isi_str_L, E_isi_str_C, E_isi_list_N, E_isi_list_B, E_isi_list_I, E_isi_list_S, E_isi_list_T, E_isi_list_L, E_isi_list_C, E_isi_tuple_N, E_isi_tuple_B, E_isi_tuple_I, E_isi_tuple_S, E_isi_tuple_T, E_isi_tuple_L, E_isi_tuple_C, E_isi2_N, E_isi2_B, E_isi2_I, E_isi2_S, E_isi2_T, E_isi2_L, E_isi2_C, E_isN_B, E_notN_B, E_isN_I, E_notN_I, E_isN_S, E_notN_S, E_isN_T, E_notN_T, E_isN_L, E_notN_L, E_isN_C, E_notN_C, E_isa1, E_isa2, E_lk1, E_xf, E_fam, E_mul, E_fdiv, E_ixN, E_decT, E_decF, List.getElem?_cons_zero, List.getElem?_cons_succ, List.set_cons_zero, List.set_cons_succ, List.length_cons, List.length_nil, List.length_map, List.append_nil, List.cons_append, List.nil_append, entry, List.map_cons, List.map_nil, List.replicate_succ, List.replicate_zero, Nat.reduceAdd, Nat.reduceSub, Nat.reduceLT, Nat.reduceLeDiff, Nat.reduceEqDiff, Nat.zero_add, ↓reduceIte, decide_true, decide_false, Bool.not_true, Bool.not_false, eq_self, ne_eq, not_true_eq_false, not_false_eq_true, Int.reduceEq, Int.reduceToNat, Int.toNat_natCast, Int.reduceNe, Int.reduceLT, Int.reduceLE, Int.reduceNeg, Nat.reduceLeDiff, if_true, if_false, decide_not, Bool.true_and, Bool.and_true, Bool.false_and, Bool.and_false, Bool.not_not, reduceCtorEq, el] <;> rfl)
      rw [← h]
      show (match l1_common_bottom [x, some (.int q), some (R2 a b)] with | .nx ρ2 => forL (nmG 2) l1_common_bottom (toD rs) ρ2 | .ct ρ2 => forL (nmG 2) l1_common_bottom (toD rs) ρ2 | .brk ρ2 => .nx ρ2 | .ret d ρ2 => .ret d ρ2 | .exc e ρ2 => .exc e ρ2 | .stuck => .stuck) = _
      rw [st]
    · obtain ⟨z', h⟩ := i2 x (some (R2 a b))
      refine ⟨z', ?_⟩
      have st : l1__law_tops [x, some (.int q), some (R2 a b)] = .nx [x, some (.int Q0), some (R2 a b)] := by
        unfold l1__law_tops
        (simp (disch := first | omega | assumption | (simp only [List.length_cons, List.length_nil, List.length_map, List.length_append, List.length_set]; omega)) only [E_c, E_var, E_own, E_bin, E_bin1, E_bin1x, E_bin2, E_bin2x, E_opt, E_un, E_un1, E_un1x, E_nil, E_cons, E_cons1, E_cons1x, E_cons2, E_cons2x, E_aF, E_tB, E_fB, E_fBx, E_tT, E_fT, E_fTx, E_selt, E_self, E_if, E_ifx, E_rOk, E_tAnd, E_tOr, E_tNot, E_fNotR, E_fNotRx, E_and, E_and1, E_and1x, E_or, E_or1, E_or1x, E_not, E_not1, E_not1x, E_eIf, E_selT, E_call, E_call1, E_call1x, E_to, E_tox, E_callN, E_callN1, E_toN, E_callH, E_ifOwn, E_callH1, E_callH2, E_toH, E_ixO, E_ixO1, E_ixO2, E_move, E_move1, E_ownA, E_ownA1, E_ownV, E_varV, E_seq, E_then, E_thenr, E_thenx, E_thenb, E_thenc, E_seqN, E_thenN, E_next, E_brk, E_ct, E_expr, E_expr1, E_expr1x, E_set, E_set1, E_set1x, E_ret, E_ret1, E_ret1x, E_retN, E_ifS, E_ifS1, E_ifS1x, E_asg, E_asg1, E_asg1x, E_asg2, E_nm, E_nilG, E_consG, E_obind, E_tupG2, E_tupG3, E_tupG4, E_par, E_par1, E_app, E_ifOwnS, E_app1, E_app1x, E_app20, E_app2, E_setIx, E_SI1, E_SI2, E_SI3, E_SI4, E_for, E_for1, E_for1x, E_items, E_items1, E_itL, E_itS, E_itT, E_rng1, E_rng11, E_rng2, E_rng21, E_lc, E_lc1, E_lc1x, E_lc2, E_runF, E_runr, E_runn, E_runx, E_runN, E_runNr, E_runH, E_runHr, E_runHn, E_runH2, E_raise1, E_R1, E_raise2, E_R2, E_R22, E_raise0, E_try, E_try1, E_tryr, E_tryx, E_try2, E_try2f, E_beh, E_behr, E_behb, E_behc, E_sl, E_sl1, E_sl2, E_sl3, E_sl3t, E_oN, E_oS, E_oS1, E_ch, E_ch1, E_ch2, E_ch3t, E_ch3f, E_ch4, E_enum, E_enum1, E_zip, E_zip1, E_zip1t, E_add, E_sub, E_neg, E_lt, E_le, E_gt, E_ge, E_eq, E_ne, E_mod, E_trI, E_trB, E_trN, E_trL, E_trT, E_lenL, E_lenT, E_lenS, E_listS, E_intB, E_intI, E_abs, E_listL, E_listT, E_tupleL, E_tupleT, E_dTup0, E_dTup1, E_dTup2, E_dTup3, E_dTup4, E_dTup5, E_dTup6, E_dTup7, E_dTup8, E_dTup9, E_dTup10, E_dTup11, E_dTup12, E_dLst0, E_dLst1, E_dLst2, E_dLst3, E_dLst4, E_dLst5, E_dLst6, E_dLst7, E_dLst8, E_dLst9, E_dLst10, E_dLst11, E_dLst12, E_gcd, E_isNnon, E_notN, E_isB, E_notB, E_ixL, E_ixT, E_at0, E_at1, E_at2, E_at3, E_at4, E_at5, E_isi_int_N, E_isi_int_B, E_isi_int_I, E_isi_int_S, E_isi_int_T, E_isi_int_L, E_isi_int_C, E_isi_bool_N, E_isi_bool_B, E_isi_bool_I, E_isi_bool_S, E_isi_bool_T, E_isi_bool_L, E_isi_bool_C, E_isi_str_N, E_isi_str_B, E_isi_str_I, E_isi_str_S, E_isi_str_T, E_isi_str_L, E_isi_str_C, E_isi_list_N, E_isi_list_B, E_isi_list_I, E_isi_list_S, E_isi_list_T, E_isi_list_L, E_isi_list_C, E_isi_tuple_N, E_isi_tuple_B, E_isi_tuple_I, E_isi_tuple_S, E_isi_tuple_T, E_isi_tuple_L, E_isi_tuple_C, E_isi2_N, E_isi2_B, E_isi2_I, E_isi2_S, E_isi2_T, E_isi2_L, E_isi2_C, E_isN_B, E_notN_B, E_isN_I, E_notN_I, E_isN_S, E_notN_S, E_isN_T, E_notN_T, E_isN_L, E_notN_L, E_isN_C, E_notN_C, E_isa1, E_isa2, E_lk1, E_xf, E_fam, E_mul, E_fdiv, E_ixN, E_decT, E_decF, List.getElem?_cons_zero, List.getElem?_cons_succ, List.set_cons_zero, List.set_cons_succ, List.length_cons, List.length_nil, List.length_map, List.append_nil, List.cons_append, List.nil_append, entry, List.map_cons, List.map_nil, List.replicate_succ, List.replicate_zero, Nat.reduceAdd, Nat.reduceSub, Nat.reduceLT, Nat.reduceLeDiff, Nat.reduceEqDiff, Nat.zero_add, ↓reduceIte, decide_true, decide_false, Bool.not_true, Bool.not_false, eq_self, ne_eq, not_true_eq_false, not_false_eq_true, Int.reduceEq, Int.reduceToNat, Int.toNat_natCast, Int.reduceNe, Int.reduceLT, Int.reduceLE, Int.reduceNeg, Nat.reduceLeDiff, if_true, if_false, decide_not, Bool.true_and, Bool.and_true, Bool.false_and, Bool.and_false, Bool.not_not, reduceCtorEq, eg, em, ef] <;> rfl)
      rw [← h]
      show (match l1__law_tops [x, some (.int q), some (R2 a b)] with | .nx ρ2 => forL (nmG 2) l1__law_tops (toD rs) ρ2 | .ct ρ2 => forL (nmG 2) l1__law_tops (toD rs) ρ2 | .brk ρ2 => .nx ρ2 | .ret d ρ2 => .ret d ρ2 | .exc e ρ2 => .exc e ρ2 | .stuck => .stuck) = _
      rw [st]
end Law

set_option Elab.async false
set_option linter.all false
set_option maxRecDepth 100000
set_option maxHeartbeats 4000000
noncomputable section
namespace Law
open PySem L2 Py
theorem ok_tup2 (n : Nat) (a b : Int) : okD (n + 1) (R2 a b) = true := by
  show ([D.int a, D.int b].all (okD n)) = true
  simp [ok_int]
theorem rows_ok (rs : List (Int × Int)) : okD 20 (.lst (toD rs)) = true := by
  show ((toD rs).all (okD 19)) = true
  unfold toD
  rw [List.all_map, List.all_eq_true]
  intro p _
  exact ok_tup2 18 p.1 p.2
theorem rows_refl : ∀ rs : List (Int × Int), PyData.eqvAll (toPys (toD rs)) (toPys (toD rs)) = true
  | [] => by simp [toD, toPys, PyData.eqvAll]
  | p :: rs => by
    have ih := rows_refl rs
    unfold toD at ih ⊢
    simp [toPys, toPy, PyData.eqvAll, PyData.eqv, ih]
theorem rows_eq (rs : List (Int × Int)) : dEq (.lst (toD rs)) (.lst (toD rs)) = some (.bl true) := by
  have e : eqvD (.lst (toD rs)) (.lst (toD rs)) = true := by
    unfold eqvD
    simp [toPy, PyData.eqv, rows_refl rs]
  unfold dEq
  rw [e, rows_ok]
  rfl
theorem fl_le' (a : Int) {b : Int} (hb : 1 ≤ b) : a.fdiv b * b ≤ a := by
  rw [Int.fdiv_eq_ediv_of_nonneg _ (by omega)]
  exact Int.ediv_mul_le a (by omega)
theorem fl_lt' (a : Int) {b : Int} (hb : 1 ≤ b) : a < (a.fdiv b + 1) * b := by
  rw [Int.fdiv_eq_ediv_of_nonneg _ (by omega)]
  exact Int.lt_ediv_add_one_mul_self a (by omega)
theorem fl_bd' {k : Nat} {a b : Int} (hb : 1 ≤ b) (ha : Bd k a) : Bd (k + 1) (a.fdiv b) := by
  have h1 := fl_le' a hb
  have h2 := fl_lt' a hb
  have h3 : (a.fdiv b).natAbs ≤ a.natAbs + 1 := by
    generalize a.fdiv b = q at *
    rcases Int.lt_or_le q 0 with h | h
    · have h4 : (q + 1) * b ≤ q + 1 := by
        have := Int.mul_le_mul_of_nonpos_left (a := q + 1) (b := b) (c := 1) (by omega) hb
        omega
      omega
    · have h4 : q ≤ q * b := by
        have := Int.mul_le_mul_of_nonneg_left hb h
        omega
      omega
  unfold Bd at *
  rw [Nat.pow_succ]
  omega
theorem topsLc {x1 : Option D} {Q : Int} (hQ : Bd 1400 Q) : ∀ (rs : List (Int × Int)) (acc : List D) (z : Option D), RowOk rs → ∃ L z', lcL (nmG 2) lYes e2__law_tops [2] (toD rs) acc [x1, some (.int Q), z] = .ok L [x1, some (.int Q), z']
  | [], acc, z, _ => ⟨acc, z, rfl⟩
  | (a, b) :: rs, acc, z, h => by
    obtain ⟨b1, ha, hb⟩ := h (a, b) List.mem_cons_self
    have b1 : 1 ≤ b := b1
    have ha : Bd 140 a := ha
    have hb : Bd 140 b := hb
    have ef : dFdiv (.int Q) (.int b) = some (.int (Q.fdiv b)) := dFdiv_of hb (by decide) (by omega)
    have em : dMul (.int a) (.int (Q.fdiv b)) = some (.int (a * Q.fdiv b)) := dMul_of ha (fl_bd' b1 hQ) (by decide)
    have st : e2__law_tops [x1, some (.int Q), some (R2 a b)] = .ok (.int (a * Q.fdiv b)) [x1, some (.int Q), some (R2 a b)] := by
      unfold e2__law_tops
      (simp (disch := first | omega | assumption | (simp only [List.length_cons, List.length_nil, List.length_map, List.length_append, List.length_set]; omega) | (simp only [List.getElem?_cons_zero, List.getElem?_cons_succ]; done)) only [E_c, E_var, E_own, E_bin, E_bin1, E_bin1x, E_bin2, E_bin2x, E_opt, E_un, E_un1, E_un1x, E_nil, E_cons, E_cons1, E_cons1x, E_cons2, E_cons2x, E_aF, E_tB, E_fB, E_fBx, E_tT, E_fT, E_fTx, E_selt, E_self, E_if, E_ifx, E_rOk, E_tAnd, E_tOr, E_tNot, E_fNotR, E_fNotRx, E_and, E_and1, E_and1x, E_or, E_or1, E_or1x, E_not, E_not1, E_not1x, E_eIf, E_selT, E_call, E_call1, E_call1x, E_to, E_tox, E_callN, E_callN1, E_toN, E_callH, E_ifOwn, E_callH1, E_callH2, E_toH, E_ixO, E_ixO1, E_ixO2, E_move, E_move1, E_ownA, E_ownA1, E_ownV, E_varV, E_seq, E_then, E_thenr, E_thenx, E_thenb, E_thenc, E_seqN, E_thenN, E_next, E_brk, E_ct, E_expr, E_expr1, E_expr1x, E_set, E_set1, E_set1x, E_ret, E_ret1, E_ret1x, E_retN, E_ifS, E_ifS1, E_ifS1x, E_asg, E_asg1, E_asg1x, E_asg2, E_nm, E_nilG, E_consG, E_obind, E_tupG2, E_tupG3, E_tupG4, E_par, E_par1, E_app, E_ifOwnS, E_app1, E_app1x, E_app20, E_app2, E_setIx, E_SI1, E_SI2, E_SI3, E_SI4, E_for, E_for1, E_for1x, E_items, E_items1, E_itL, E_itS, E_itT, E_rng1, E_rng11, E_rng2, E_rng21, E_lc, E_lc1, E_lc1x, E_lc2, E_runF, E_runr, E_runn, E_runx, E_runN, E_runNr, E_runH, E_runHr, E_runHn, E_runH2, E_raise1, E_R1, E_raise2, E_R2, E_R22, E_raise0, E_try, E_try1, E_tryr, E_tryx, E_try2, E_try2f, E_beh, E_behr, E_behb, E_behc, E_sl, E_sl1, E_sl2, E_sl3, E_sl3t, E_oN, E_oS, E_oS1, E_ch, E_ch1, E_ch2, E_ch3t, E_ch3f, E_ch4, E_enum, E_enum1, E_zip, E_zip1, E_zip1t, E_add, E_sub, E_neg, E_lt, E_le, E_gt, E_ge, E_eq, E_ne, E_mod, E_trI, E_trB, E_trN, E_trL, E_trT, E_lenL, E_lenT, E_lenS, E_listS, E_intB, E_intI, E_abs, E_listL, E_listT, E_tupleL, E_tupleT, E_dTup0, E_dTup1, E_dTup2, E_dTup3, E_dTup4, E_dTup5, E_dTup6, E_dTup7, E_dTup8, E_dTup9, E_dTup10, E_dTup11, E_dTup12, E_dLst0, E_dLst1, E_dLst2, E_dLst3, E_dLst4, E_dLst5, E_dLst6, E_dLst7, E_dLst8, E_dLst9, E_dLst10, E_dLst11, E_dLst12, E_gcd, E_isNnon, E_notN, E_isB, E_notB, E_ixL, E_ixT, E_at0, E_at1, E_at2, E_at3, E_at4, E_at5, E_isi_int_N, E_isi_int_B, E_isi_int_I, E_isi_int_S, E_isi_int_T, E_isi_int_L, E_isi_int_C, E_isi_bool_N, E_isi_bool_B, E_isi_bool_I, E_isi_bool_S, E_isi_bool_T, E_isi_bool_L, E_isi_bool_C, E_isi_str_N, E_isi_str_B, E_isi_str_I, E_isi_str_S, E_isi_str_T, E_isi_str_L, E_isi_str_C, E_isi_list_N, E_isi_list_B, E_isi_list_I, E_isi_list_S, E_isi_list_T, E_isi_list_L, E_isi_list_C, E_isi_tuple_N, E_isi_tuple_B, E_isi_tuple_I, E_isi_tuple_S, E_isi_tuple_T, E_isi_tuple_L, E_isi_tuple_C, E_isi2_N, E_isi2_B, E_isi2_I, E_isi2_S, E_isi2_T, E_isi2_L, E_isi2_C, E_isN_B, E_notN_B, E_isN_I, E_notN_I, E_isN_S, E_notN_S, E_isN_T, E_notN_T, E_isN_L, E_notN_L, E_isN_C, E_notN_C, E_isa1, E_isa2, E_lk1, E_xf, E_fam, E_mul, E_fdiv, E_ixN, E_decT, E_decF, List.getElem?_cons_zero, List.getElem?_cons_succ, List.set_cons_zero, List.set_cons_succ, List.length_cons, List.length_nil, List.length_map, List.append_nil, List.cons_append, List.nil_append, entry, List.map_cons, List.map_nil, List.replicate_succ, List.replicate_zero, Nat.reduceAdd, Nat.reduceSub, Nat.reduceLT, Nat.reduceLeDiff, Nat.reduceEqDiff, Nat.zero_add, ↓reduceIte, decide_true, decide_false, Bool.not_true, Bool.not_false, eq_self, ne_eq, not_true_eq_false, not_false_eq_true, Int.reduceEq, Int.reduceToNat, Int.toNat_natCast, Int.reduceNe, Int.reduceLT, Int.reduceLE, Int.reduceNeg, Nat.reduceLeDiff, if_true, if_false, decide_not, Bool.true_and, Bool.and_true, Bool.false_and, Bool.and_false, Bool.not_not, reduceCtorEq, restE, wipeE, Option.getD_some, Option.getD_none, ef, em] <;> rfl)
    obtain ⟨L, z', ih⟩ := topsLc hQ rs (acc ++ [.int (a * Q.fdiv b)]) (some (R2 a b)) (fun p hp => h p (List.mem_cons_of_mem _ hp))
    refine ⟨L, z', ?_⟩
    have s2 := lcL_go (mg := nmG 2) (vs := [2]) (d := R2 a b) (ds := toD rs) (acc := acc) (ρ := [x1, some (.int Q), z]) rfl st
    exact s2.trans ih
theorem pl_rows {l : List D} (g : Good l) : ∃ l', f__law_rows l [] = .ok (.bl true, l') ∧ Good l' := by
  obtain ⟨i, l1, e1, i0, i1, g1⟩ := pl_take g (many := 6) (by decide) (bd_of (N := 7) (by omega) (by omega) (by decide))
  obtain ⟨rs, l2, z2, e2, hl, ho, g2⟩ := rowsLc (x1 := none) (x2 := none) (x3 := none) (x4 := none) (rngD 0 i) [] l1 none g1
  have hlen : (rngD 0 i).length = i.toNat := by unfold rngD; rw [List.length_map, List.length_range]; omega
  have hlen2 : (rngD 0 i).length ≤ 1000000 := by omega
  have hrs : rs.length ≤ 5 := by omega
  obtain ⟨j, l3, e3, j0, j1, g3⟩ := pl_take g2 (many := 2) (by decide) (bd_of (N := 7) (by omega) (by omega) (by decide))
  obtain ⟨k, l4, e4, k0, k1, g4⟩ := pl_take g3 (many := 2) (by decide) (bd_of (N := 7) (by omega) (by omega) (by decide))
  obtain ⟨N, E, s1, s2⟩ := sumLoop rs 0 1 140 ho (by decide) (bd_of (N := 2) (by decide) (by decide) (by decide)) (bd_of (N := 2) (by decide) (by decide) (by decide)) (by decide) (by omega)
  obtain ⟨Q, Q1, QB, c1, c2⟩ := lcmLoop rs 1 140 ho (by decide) (bd_of (N := 2) (by decide) (by decide) (by decide)) (by omega)
  have es : ∀ x : D, itemsD x = some (toD rs) → f_sum_ratios [x] = .ok (R2 N E) := fun x hx => by
    obtain ⟨z', h⟩ := s1 (some x) none
    unfold f_sum_ratios m_sum_ratios
    (simp (disch := first | omega | assumption | (simp only [List.length_cons, List.length_nil, List.length_map, List.length_append, List.length_set]; omega) | (simp only [List.getElem?_cons_zero, List.getElem?_cons_succ]; done)) only [E_c, E_var, E_own, E_bin, E_bin1, E_bin1x, E_bin2, E_bin2x, E_opt, E_un, E_un1, E_un1x, E_nil, E_cons, E_cons1, E_cons1x, E_cons2, E_cons2x, E_aF, E_tB, E_fB, E_fBx, E_tT, E_fT, E_fTx, E_selt, E_self, E_if, E_ifx, E_rOk, E_tAnd, E_tOr, E_tNot, E_fNotR, E_fNotRx, E_and, E_and1, E_and1x, E_or, E_or1, E_or1x, E_not, E_not1, E_not1x, E_eIf, E_selT, E_call, E_call1, E_call1x, E_to, E_tox, E_callN, E_callN1, E_toN, E_callH, E_ifOwn, E_callH1, E_callH2, E_toH, E_ixO, E_ixO1, E_ixO2, E_move, E_move1, E_ownA, E_ownA1, E_ownV, E_varV, E_seq, E_then, E_thenr, E_thenx, E_thenb, E_thenc, E_seqN, E_thenN, E_next, E_brk, E_ct, E_expr, E_expr1, E_expr1x, E_set, E_set1, E_set1x, E_ret, E_ret1, E_ret1x, E_retN, E_ifS, E_ifS1, E_ifS1x, E_asg, E_asg1, E_asg1x, E_asg2, E_nm, E_nilG, E_consG, E_obind, E_tupG2, E_tupG3, E_tupG4, E_par, E_par1, E_app, E_ifOwnS, E_app1, E_app1x, E_app20, E_app2, E_setIx, E_SI1, E_SI2, E_SI3, E_SI4, E_for, E_for1, E_for1x, E_items, E_items1, E_itL, E_itS, E_itT, E_rng1, E_rng11, E_rng2, E_rng21, E_lc, E_lc1, E_lc1x, E_lc2, E_runF, E_runr, E_runn, E_runx, E_runN, E_runNr, E_runH, E_runHr, E_runHn, E_runH2, E_raise1, E_R1, E_raise2, E_R2, E_R22, E_raise0, E_try, E_try1, E_tryr, E_tryx, E_try2, E_try2f, E_beh, E_behr, E_behb, E_behc, E_sl, E_sl1, E_sl2, E_sl3, E_sl3t, E_oN, E_oS, E_oS1, E_ch, E_ch1, E_ch2, E_ch3t, E_ch3f, E_ch4, E_enum, E_enum1, E_zip, E_zip1, E_zip1t, E_add, E_sub, E_neg, E_lt, E_le, E_gt, E_ge, E_eq, E_ne, E_mod, E_trI, E_trB, E_trN, E_trL, E_trT, E_lenL, E_lenT, E_lenS, E_listS, E_intB, E_intI, E_abs, E_listL, E_listT, E_tupleL, E_tupleT, E_dTup0, E_dTup1, E_dTup2, E_dTup3, E_dTup4, E_dTup5, E_dTup6, E_dTup7, E_dTup8, E_dTup9, E_dTup10, E_dTup11, E_dTup12, E_dLst0, E_dLst1, E_dLst2, E_dLst3, E_dLst4, E_dLst5, E_dLst6, E_dLst7, E_dLst8, E_dLst9, E_dLst10, E_dLst11, E_dLst12, E_gcd, E_isNnon, E_notN, E_isB, E_notB, E_ixL, E_ixT, E_at0, E_at1, E_at2, E_at3, E_at4, E_at5, E_isi_int_N, E_isi_int_B, E_isi_int_I, E_isi_int_S, E_isi_int_T, E_isi_int_L, E_isi_int_C, E_isi_bool_N, E_isi_bool_B, E_isi_bool_I, E_isi_bool_S, E_isi_bool_T, E_isi_bool_L, E_isi_bool_C, E_isi_str_N, E_isi_str_B, E_isi_str_I, E_isi_str_S, E_isi_str_T, E_isi_str_L, E_isi_str_C, E_isi_list_N, E_isi_list_B, E_isi_list_I, E_isi_list_S, E_isi_list_T, E_isi_list_L, E_isi_list_C, E_isi_tuple_N, E_isi_tuple_B, E_isi_tuple_I, E_isi_tuple_S, E_isi_tuple_T, E_isi_tuple_L, E_isi_tuple_C, E_isi2_N, E_isi2_B, E_isi2_I, E_isi2_S, E_isi2_T, E_isi2_L, E_isi2_C, E_isN_B, E_notN_B, E_isN_I, E_notN_I, E_isN_S, E_notN_S, E_isN_T, E_notN_T, E_isN_L, E_notN_L, E_isN_C, E_notN_C, E_isa1, E_isa2, E_lk1, E_xf, E_fam, E_mul, E_fdiv, E_ixN, E_decT, E_decF, List.getElem?_cons_zero, List.getElem?_cons_succ, List.set_cons_zero, List.set_cons_succ, List.length_cons, List.length_nil, List.length_map, List.append_nil, List.cons_append, List.nil_append, entry, List.map_cons, List.map_nil, List.replicate_succ, List.replicate_zero, Nat.reduceAdd, Nat.reduceSub, Nat.reduceLT, Nat.reduceLeDiff, Nat.reduceEqDiff, Nat.zero_add, ↓reduceIte, decide_true, decide_false, Bool.not_true, Bool.not_false, eq_self, ne_eq, not_true_eq_false, not_false_eq_true, Int.reduceEq, Int.reduceToNat, Int.toNat_natCast, Int.reduceNe, Int.reduceLT, Int.reduceLE, Int.reduceNeg, Nat.reduceLeDiff, if_true, if_false, decide_not, Bool.true_and, Bool.and_true, Bool.false_and, Bool.and_false, Bool.not_not, reduceCtorEq, restE, wipeE, Option.getD_some, Option.getD_none, hx, h] <;> rfl)
  have et : f__law_total [.lst (toD rs)] = .ok (R2 N E) := by
    obtain ⟨z', h⟩ := s2 (some (.lst (toD rs))) none
    have hx : itemsD (.lst (toD rs)) = some (toD rs) := rfl
    unfold f__law_total m__law_total
    (simp (disch := first | omega | assumption | (simp only [List.length_cons, List.length_nil, List.length_map, List.length_append, List.length_set]; omega) | (simp only [List.getElem?_cons_zero, List.getElem?_cons_succ]; done)) only [E_c, E_var, E_own, E_bin, E_bin1, E_bin1x, E_bin2, E_bin2x, E_opt, E_un, E_un1, E_un1x, E_nil, E_cons, E_cons1, E_cons1x, E_cons2, E_cons2x, E_aF, E_tB, E_fB, E_fBx, E_tT, E_fT, E_fTx, E_selt, E_self, E_if, E_ifx, E_rOk, E_tAnd, E_tOr, E_tNot, E_fNotR, E_fNotRx, E_and, E_and1, E_and1x, E_or, E_or1, E_or1x, E_not, E_not1, E_not1x, E_eIf, E_selT, E_call, E_call1, E_call1x, E_to, E_tox, E_callN, E_callN1, E_toN, E_callH, E_ifOwn, E_callH1, E_callH2, E_toH, E_ixO, E_ixO1, E_ixO2, E_move, E_move1, E_ownA, E_ownA1, E_ownV, E_varV, E_seq, E_then, E_thenr, E_thenx, E_thenb, E_thenc, E_seqN, E_thenN, E_next, E_brk, E_ct, E_expr, E_expr1, E_expr1x, E_set, E_set1, E_set1x, E_ret, E_ret1, E_ret1x, E_retN, E_ifS, E_ifS1, E_ifS1x, E_asg, E_asg1, E_asg1x, E_asg2, E_nm, E_nilG, E_consG, E_obind, E_tupG2, E_tupG3, E_tupG4, E_par, E_par1, E_app, E_ifOwnS, E_app1, E_app1x, E_app20, E_app2, E_setIx, E_SI1, E_SI2, E_SI3, E_SI4, E_for, E_for1, E_for1x, E_items, E_items1, E_itL, E_itS, E_itT, E_rng1, E_rng11, E_rng2, E_rng21, E_lc, E_lc1, E_lc1x, E_lc2, E_runF, E_runr, E_runn, E_runx, E_runN, E_runNr, E_runH, E_runHr, E_runHn, E_runH2, E_raise1, E_R1, E_raise2, E_R2, E_R22, E_raise0, E_try, E_try1, E_tryr, E_tryx, E_try2, E_try2f, E_beh, E_behr, E_behb, E_behc, E_sl, E_sl1, E_sl2, E_sl3, E_sl3t, E_oN, E_oS, E_oS1, E_ch, E_ch1, E_ch2, E_ch3t, E_ch3f, E_ch4, E_enum, E_enum1, E_zip, E_zip1, E_zip1t, E_add, E_sub, E_neg, E_lt, E_le, E_gt, E_ge, E_eq, E_ne, E_mod, E_trI, E_trB, E_trN, E_trL, E_trT, E_lenL, E_lenT, E_lenS, E_listS, E_intB, E_intI, E_abs, E_listL, E_listT, E_tupleL, E_tupleT, E_dTup0, E_dTup1, E_dTup2, E_dTup3, E_dTup4, E_dTup5, E_dTup6, E_dTup7, E_dTup8, E_dTup9, E_dTup10, E_dTup11, E_dTup12, E_dLst0, E_dLst1, E_dLst2, E_dLst3, E_dLst4, E_dLst5, E_dLst6, E_dLst7, E_dLst8, E_dLst9, E_dLst10, E_dLst11, E_dLst12, E_gcd, E_isNnon, E_notN, E_isB, E_notB, E_ixL, E_ixT, E_at0, E_at1, E_at2, E_at3, E_at4, E_at5, E_isi_int_N, E_isi_int_B, E_isi_int_I, E_isi_int_S, E_isi_int_T, E_isi_int_L, E_isi_int_C, E_isi_bool_N, E_isi_bool_B, E_isi_bool_I, E_isi_bool_S, E_isi_bool_T, E_isi_bool_L, E_isi_bool_C, E_isi_str_N, E_isi_str_B, E_isi_str_I, E_isi_str_S, E_isi_str_T, E_isi_str_L, E_isi_str_C, E_isi_list_N, E_isi_list_B, E_isi_list_I, E_isi_list_S, E_isi_list_T, E_isi_list_L, E_isi_list_C, E_isi_tuple_N, E_isi_tuple_B, E_isi_tuple_I, E_isi_tuple_S, E_isi_tuple_T, E_isi_tuple_L, E_isi_tuple_C, E_isi2_N, E_isi2_B, E_isi2_I, E_isi2_S, E_isi2_T, E_isi2_L, E_isi2_C, E_isN_B, E_notN_B, E_isN_I, E_notN_I, E_isN_S, E_notN_S, E_isN_T, E_notN_T, E_isN_L, E_notN_L, E_isN_C, E_notN_C, E_isa1, E_isa2, E_lk1, E_xf, E_fam, E_mul, E_fdiv, E_ixN, E_decT, E_decF, List.getElem?_cons_zero, List.getElem?_cons_succ, List.set_cons_zero, List.set_cons_succ, List.length_cons, List.length_nil, List.length_map, List.append_nil, List.cons_append, List.nil_append, entry, List.map_cons, List.map_nil, List.replicate_succ, List.replicate_zero, Nat.reduceAdd, Nat.reduceSub, Nat.reduceLT, Nat.reduceLeDiff, Nat.reduceEqDiff, Nat.zero_add, ↓reduceIte, decide_true, decide_false, Bool.not_true, Bool.not_false, eq_self, ne_eq, not_true_eq_false, not_false_eq_true, Int.reduceEq, Int.reduceToNat, Int.toNat_natCast, Int.reduceNe, Int.reduceLT, Int.reduceLE, Int.reduceNeg, Nat.reduceLeDiff, if_true, if_false, decide_not, Bool.true_and, Bool.and_true, Bool.false_and, Bool.and_false, Bool.not_not, reduceCtorEq, restE, wipeE, Option.getD_some, Option.getD_none, hx, h] <;> rfl)
  have ec : ∀ x : D, itemsD x = some (toD rs) → f_common_bottom [x] = .ok (.int Q) := fun x hx => by
    obtain ⟨z', h⟩ := c1 (some x) none
    unfold f_common_bottom m_common_bottom
    (simp (disch := first | omega | assumption | (simp only [List.length_cons, List.length_nil, List.length_map, List.length_append, List.length_set]; omega) | (simp only [List.getElem?_cons_zero, List.getElem?_cons_succ]; done)) only [E_c, E_var, E_own, E_bin, E_bin1, E_bin1x, E_bin2, E_bin2x, E_opt, E_un, E_un1, E_un1x, E_nil, E_cons, E_cons1, E_cons1x, E_cons2, E_cons2x, E_aF, E_tB, E_fB, E_fBx, E_tT, E_fT, E_fTx, E_selt, E_self, E_if, E_ifx, E_rOk, E_tAnd, E_tOr, E_tNot, E_fNotR, E_fNotRx, E_and, E_and1, E_and1x, E_or, E_or1, E_or1x, E_not, E_not1, E_not1x, E_eIf, E_selT, E_call, E_call1, E_call1x, E_to, E_tox, E_callN, E_callN1, E_toN, E_callH, E_ifOwn, E_callH1, E_callH2, E_toH, E_ixO, E_ixO1, E_ixO2, E_move, E_move1, E_ownA, E_ownA1, E_ownV, E_varV, E_seq, E_then, E_thenr, E_thenx, E_thenb, E_thenc, E_seqN, E_thenN, E_next, E_brk, E_ct, E_expr, E_expr1, E_expr1x, E_set, E_set1, E_set1x, E_ret, E_ret1, E_ret1x, E_retN, E_ifS, E_ifS1, E_ifS1x, E_asg, E_asg1, E_asg1x, E_asg2, E_nm, E_nilG, E_consG, E_obind, E_tupG2, E_tupG3, E_tupG4, E_par, E_par1, E_app, E_ifOwnS, E_app1, E_app1x, E_app20, E_app2, E_setIx, E_SI1, E_SI2, E_SI3, E_SI4, E_for, E_for1, E_for1x, E_items, E_items1, E_itL, E_itS, E_itT, E_rng1, E_rng11, E_rng2, E_rng21, E_lc, E_lc1, E_lc1x, E_lc2, E_runF, E_runr, E_runn, E_runx, E_runN, E_runNr, E_runH, E_runHr, E_runHn, E_runH2, E_raise1, E_R1, E_raise2, E_R2, E_R22, E_raise0, E_try, E_try1, E_tryr, E_tryx, E_try2, E_try2f, E_beh, E_behr, E_behb, E_behc, E_sl, E_sl1, E_sl2, E_sl3, E_sl3t, E_oN, E_oS, E_oS1, E_ch, E_ch1, E_ch2, E_ch3t, E_ch3f, E_ch4, E_enum, E_enum1, E_zip, E_zip1, E_zip1t, E_add, E_sub, E_neg, E_lt, E_le, E_gt, E_ge, E_eq, E_ne, E_mod, E_trI, E_trB, E_trN, E_trL, E_trT, E_lenL, E_lenT, E_lenS, E_listS, E_intB, E_intI, E_abs, E_listL, E_listT, E_tupleL, E_tupleT, E_dTup0, E_dTup1, E_dTup2, E_dTup3, E_dTup4, E_dTup5, E_dTup6, E_dTup7, E_dTup8, E_dTup9, E_dTup10, E_dTup11, E_dTup12, E_dLst0, E_dLst1, E_dLst2, E_dLst3, E_dLst4, E_dLst5, E_dLst6, E_dLst7, E_dLst8, E_dLst9, E_dLst10, E_dLst11, E_dLst12, E_gcd, E_isNnon, E_notN, E_isB, E_notB, E_ixL, E_ixT, E_at0, E_at1, E_at2, E_at3, E_at4, E_at5, E_isi_int_N, E_isi_int_B, E_isi_int_I, E_isi_int_S, E_isi_int_T, E_isi_int_L, E_isi_int_C, E_isi_bool_N, E_isi_bool_B, E_isi_bool_I, E_isi_bool_S, E_isi_bool_T, E_isi_bool_L, E_isi_bool_C, E_isi_str_N, E_isi_str_B, E_isi_str_I, E_isi_str_S, E_isi_str_T, E_isi_str_L, E_isi_str_C, E_isi_list_N, E_isi_list_B, E_isi_list_I, E_isi_list_S, E_isi_list_T, E_isi_list_L, E_isi_list_C, E_isi_tuple_N, E_isi_tuple_B, E_isi_tuple_I, E_isi_tuple_S, E_isi_tuple_T, E_isi_tuple_L, E_isi_tuple_C, E_isi2_N, E_isi2_B, E_isi2_I, E_isi2_S, E_isi2_T, E_isi2_L, E_isi2_C, E_isN_B, E_notN_B, E_isN_I, E_notN_I, E_isN_S, E_notN_S, E_isN_T, E_notN_T, E_isN_L, E_notN_L, E_isN_C, E_notN_C, E_isa1, E_isa2, E_lk1, E_xf, E_fam, E_mul, E_fdiv, E_ixN, E_decT, E_decF, List.getElem?_cons_zero, List.getElem?_cons_succ, List.set_cons_zero, List.set_cons_succ, List.length_cons, List.length_nil, List.length_map, List.append_nil, List.cons_append, List.nil_append, entry, List.map_cons, List.map_nil, List.replicate_succ, List.replicate_zero, Nat.reduceAdd, Nat.reduceSub, Nat.reduceLT, Nat.reduceLeDiff, Nat.reduceEqDiff, Nat.zero_add, ↓reduceIte, decide_true, decide_false, Bool.not_true, Bool.not_false, eq_self, ne_eq, not_true_eq_false, not_false_eq_true, Int.reduceEq, Int.reduceToNat, Int.toNat_natCast, Int.reduceNe, Int.reduceLT, Int.reduceLE, Int.reduceNeg, Nat.reduceLeDiff, if_true, if_false, decide_not, Bool.true_and, Bool.and_true, Bool.false_and, Bool.and_false, Bool.not_not, reduceCtorEq, restE, wipeE, Option.getD_some, Option.getD_none, hx, h] <;> rfl)
  obtain ⟨L, eo⟩ : ∃ L, f__law_tops [.lst (toD rs)] = .ok (.tup [.int Q, .lst L]) := by
    obtain ⟨z', h⟩ := c2 (some (.lst (toD rs))) none
    obtain ⟨L, z3, h3⟩ := topsLc (x1 := some (.lst (toD rs))) QB rs [] z' ho
    have hx : itemsD (.lst (toD rs)) = some (toD rs) := rfl
    have hle : (toD rs).length ≤ 1000000 := by unfold toD; rw [List.length_map]; omega
    refine ⟨L, ?_⟩
    unfold f__law_tops m__law_tops
    (simp (disch := first | omega | assumption | (simp only [List.length_cons, List.length_nil, List.length_map, List.length_append, List.length_set]; omega) | (simp only [List.getElem?_cons_zero, List.getElem?_cons_succ]; done)) only [E_c, E_var, E_own, E_bin, E_bin1, E_bin1x, E_bin2, E_bin2x, E_opt, E_un, E_un1, E_un1x, E_nil, E_cons, E_cons1, E_cons1x, E_cons2, E_cons2x, E_aF, E_tB, E_fB, E_fBx, E_tT, E_fT, E_fTx, E_selt, E_self, E_if, E_ifx, E_rOk, E_tAnd, E_tOr, E_tNot, E_fNotR, E_fNotRx, E_and, E_and1, E_and1x, E_or, E_or1, E_or1x, E_not, E_not1, E_not1x, E_eIf, E_selT, E_call, E_call1, E_call1x, E_to, E_tox, E_callN, E_callN1, E_toN, E_callH, E_ifOwn, E_callH1, E_callH2, E_toH, E_ixO, E_ixO1, E_ixO2, E_move, E_move1, E_ownA, E_ownA1, E_ownV, E_varV, E_seq, E_then, E_thenr, E_thenx, E_thenb, E_thenc, E_seqN, E_thenN, E_next, E_brk, E_ct, E_expr, E_expr1, E_expr1x, E_set, E_set1, E_set1x, E_ret, E_ret1, E_ret1x, E_retN, E_ifS, E_ifS1, E_ifS1x, E_asg, E_asg1, E_asg1x, E_asg2, E_nm, E_nilG, E_consG, E_obind, E_tupG2, E_tupG3, E_tupG4, E_par, E_par1, E_app, E_ifOwnS, E_app1, E_app1x, E_app20, E_app2, E_setIx, E_SI1, E_SI2, E_SI3, E_SI4, E_for, E_for1, E_for1x, E_items, E_items1, E_itL, E_itS, E_itT, E_rng1, E_rng11, E_rng2, E_rng21, E_lc, E_lc1, E_lc1x, E_lc2, E_runF, E_runr, E_runn, E_runx, E_runN, E_runNr, E_runH, E_runHr, E_runHn, E_runH2, E_raise1, E_R1, E_raise2, E_R2, E_R22, E_raise0, E_try, E_try1, E_tryr, E_tryx, E_try2, E_try2f, E_beh, E_behr, E_behb, E_behc, E_sl, E_sl1, E_sl2, E_sl3, E_sl3t, E_oN, E_oS, E_oS1, E_ch, E_ch1, E_ch2, E_ch3t, E_ch3f, E_ch4, E_enum, E_enum1, E_zip, E_zip1, E_zip1t, E_add, E_sub, E_neg, E_lt, E_le, E_gt, E_ge, E_eq, E_ne, E_mod, E_trI, E_trB, E_trN, E_trL, E_trT, E_lenL, E_lenT, E_lenS, E_listS, E_intB, E_intI, E_abs, E_listL, E_listT, E_tupleL, E_tupleT, E_dTup0, E_dTup1, E_dTup2, E_dTup3, E_dTup4, E_dTup5, E_dTup6, E_dTup7, E_dTup8, E_dTup9, E_dTup10, E_dTup11, E_dTup12, E_dLst0, E_dLst1, E_dLst2, E_dLst3, E_dLst4, E_dLst5, E_dLst6, E_dLst7, E_dLst8, E_dLst9, E_dLst10, E_dLst11, E_dLst12, E_gcd, E_isNnon, E_notN, E_isB, E_notB, E_ixL, E_ixT, E_at0, E_at1, E_at2, E_at3, E_at4, E_at5, E_isi_int_N, E_isi_int_B, E_isi_int_I, E_isi_int_S, E_isi_int_T, E_isi_int_L, E_isi_int_C, E_isi_bool_N, E_isi_bool_B, E_isi_bool_I, E_isi_bool_S, E_isi_bool_T, E_isi_bool_L, E_isi_bool_C, E_isi_str_N, E_isi_str_B, E_isi_str_I, E_isi_str_S, E_isi_str_T, E_isi_str_L, E_isi_str_C, E_isi_list_N, E_isi_list_B, E_isi_list_I, E_isi_list_S, E_isi_list_T, E_isi_list_L, E_isi_list_C, E_isi_tuple_N, E_isi_tuple_B, E_isi_tuple_I, E_isi_tuple_S, E_isi_tuple_T, E_isi_tuple_L, E_isi_tuple_C, E_isi2_N, E_isi2_B, E_isi2_I, E_isi2_S, E_isi2_T, E_isi2_L, E_isi2_C, E_isN_B, E_notN_B, E_isN_I, E_notN_I, E_isN_S, E_notN_S, E_isN_T, E_notN_T, E_isN_L, E_notN_L, E_isN_C, E_notN_C, E_isa1, E_isa2, E_lk1, E_xf, E_fam, E_mul, E_fdiv, E_ixN, E_decT, E_decF, List.getElem?_cons_zero, List.getElem?_cons_succ, List.set_cons_zero, List.set_cons_succ, List.length_cons, List.length_nil, List.length_map, List.append_nil, List.cons_append, List.nil_append, entry, List.map_cons, List.map_nil, List.replicate_succ, List.replicate_zero, Nat.reduceAdd, Nat.reduceSub, Nat.reduceLT, Nat.reduceLeDiff, Nat.reduceEqDiff, Nat.zero_add, ↓reduceIte, decide_true, decide_false, Bool.not_true, Bool.not_false, eq_self, ne_eq, not_true_eq_false, not_false_eq_true, Int.reduceEq, Int.reduceToNat, Int.toNat_natCast, Int.reduceNe, Int.reduceLT, Int.reduceLE, Int.reduceNeg, Nat.reduceLeDiff, if_true, if_false, decide_not, Bool.true_and, Bool.and_true, Bool.false_and, Bool.and_false, Bool.not_not, reduceCtorEq, restE, wipeE, Option.getD_some, Option.getD_none, hx, h, h3, hle] <;> rfl)
  have a1 := es (.lst (toD rs)) rfl
  have a2 := es (.tup (toD rs)) rfl
  have a3 := ec (.lst (toD rs)) rfl
  have a4 := ec (.tup (toD rs)) rfl
  have ei : ∀ z : Int, f__law_int [.int z] = .ok (.bl true) := fun z => rfl
  have eq : dEq (.int Q) (.int Q) = some (.bl true) := by rw [dEq_int]; simp
  have er := rows_eq rs
  have sm := pl_same (a := N) (b := E)
  have d1 : dList [.lst (toD rs)] = some (.lst (toD rs)) := rfl
  have d2 : dTuple [.lst (toD rs)] = some (.tup (toD rs)) := rfl
  have hr : -(2 ^ 62) ≤ i ∧ i < 2 ^ 62 := by omega
  rw [List.nil_append] at e2
  refine ⟨l4, ?_, g4⟩
  unfold f__law_rows
  by_cases hj : j = 0 <;> by_cases hk : k = 0
  all_goals (unfold m__law_rows; (simp (disch := first | omega | assumption | (simp only [List.length_cons, List.length_nil, List.length_map, List.length_append, List.length_set]; omega) | (simp only [List.getElem?_cons_zero, List.getElem?_cons_succ]; done)) only [E_c, E_var, E_own, E_bin, E_bin1, E_bin1x, E_bin2, E_bin2x, E_opt, E_un, E_un1, E_un1x, E_nil, E_cons, E_cons1, E_cons1x, E_cons2, E_cons2x, E_aF, E_tB, E_fB, E_fBx, E_tT, E_fT, E_fTx, E_selt, E_self, E_if, E_ifx, E_rOk, E_tAnd, E_tOr, E_tNot, E_fNotR, E_fNotRx, E_and, E_and1, E_and1x, E_or, E_or1, E_or1x, E_not, E_not1, E_not1x, E_eIf, E_selT, E_call, E_call1, E_call1x, E_to, E_tox, E_callN, E_callN1, E_toN, E_callH, E_ifOwn, E_callH1, E_callH2, E_toH, E_ixO, E_ixO1, E_ixO2, E_move, E_move1, E_ownA, E_ownA1, E_ownV, E_varV, E_seq, E_then, E_thenr, E_thenx, E_thenb, E_thenc, E_seqN, E_thenN, E_next, E_brk, E_ct, E_expr, E_expr1, E_expr1x, E_set, E_set1, E_set1x, E_ret, E_ret1, E_ret1x, E_retN, E_ifS, E_ifS1, E_ifS1x, E_asg, E_asg1, E_asg1x, E_asg2, E_nm, E_nilG, E_consG, E_obind, E_tupG2, E_tupG3, E_tupG4, E_par, E_par1, E_app, E_ifOwnS, E_app1, E_app1x, E_app20, E_app2, E_setIx, E_SI1, E_SI2, E_SI3, E_SI4, E_for, E_for1, E_for1x, E_items, E_items1, E_itL, E_itS, E_itT, E_rng1, E_rng11, E_rng2, E_rng21, E_lc, E_lc1, E_lc1x, E_lc2, E_runF, E_runr, E_runn, E_runx, E_runN, E_runNr, E_runH, E_runHr, E_runHn, E_runH2, E_raise1, E_R1, E_raise2, E_R2, E_R22, E_raise0, E_try, E_try1, E_tryr, E_tryx, E_try2, E_try2f, E_beh, E_behr, E_behb, E_behc, E_sl, E_sl1, E_sl2, E_sl3, E_sl3t, E_oN, E_oS, E_oS1, E_ch, E_ch1, E_ch2, E_ch3t, E_ch3f, E_ch4, E_enum, E_enum1, E_zip, E_zip1, E_zip1t, E_add, E_sub, E_neg, E_lt, E_le, E_gt, E_ge, E_eq, E_ne, E_mod, E_trI, E_trB, E_trN, E_trL, E_trT, E_lenL, E_lenT, E_lenS, E_listS, E_intB, E_intI, E_abs, E_listL, E_listT, E_tupleL, E_tupleT, E_dTup0, E_dTup1, E_dTup2, E_dTup3, E_dTup4, E_dTup5, E_dTup6, E_dTup7, E_dTup8, E_dTup9, E_dTup10, E_dTup11, E_dTup12, E_dLst0, E_dLst1, E_dLst2, E_dLst3, E_dLst4, E_dLst5, E_dLst6, E_dLst7, E_dLst8, E_dLst9, E_dLst10, E_dLst11, E_dLst12, E_gcd, E_isNnon, E_notN, E_isB, E_notB, E_ixL, E_ixT, E_at0, E_at1, E_at2, E_at3, E_at4, E_at5, E_isi_int_N, E_isi_int_B, E_isi_int_I, E_isi_int_S, E_isi_int_T, E_isi_int_L, E_isi_int_C, E_isi_bool_N, E_isi_bool_B, E_isi_bool_I, E_isi_bool_S, E_isi_bool_T, E_isi_bool_L, E_isi_bool_C, E_isi_str_N, E_isi_str_B, E_isi_str_I, E_isi_str_S, E_isi_str_T, E_isi_str_L, E_isi_str_C, E_isi_list_N, E_isi_list_B, E_isi_list_I, E_isi_list_S, E_isi_list_T, E_isi_list_L, E_isi_list_C, E_isi_tuple_N, E_isi_tuple_B, E_isi_tuple_I, E_isi_tuple_S, E_isi_tuple_T, E_isi_tuple_L, E_isi_tuple_C, E_isi2_N, E_isi2_B, E_isi2_I, E_isi2_S, E_isi2_T, E_isi2_L, E_isi2_C, E_isN_B, E_notN_B, E_isN_I, E_notN_I, E_isN_S, E_notN_S, E_isN_T, E_notN_T, E_isN_L, E_notN_L, E_isN_C, E_notN_C, E_isa1, E_isa2, E_lk1, E_xf, E_fam, E_mul, E_fdiv, E_ixN, E_decT, E_decF, List.getElem?_cons_zero, List.getElem?_cons_succ, List.set_cons_zero, List.set_cons_succ, List.length_cons, List.length_nil, List.length_map, List.append_nil, List.cons_append, List.nil_append, entry, List.map_cons, List.map_nil, List.replicate_succ, List.replicate_zero, Nat.reduceAdd, Nat.reduceSub, Nat.reduceLT, Nat.reduceLeDiff, Nat.reduceEqDiff, Nat.zero_add, ↓reduceIte, decide_true, decide_false, Bool.not_true, Bool.not_false, eq_self, ne_eq, not_true_eq_false, not_false_eq_true, Int.reduceEq, Int.reduceToNat, Int.toNat_natCast, Int.reduceNe, Int.reduceLT, Int.reduceLE, Int.reduceNeg, Nat.reduceLeDiff, if_true, if_false, decide_not, Bool.true_and, Bool.and_true, Bool.false_and, Bool.and_false, Bool.not_not, reduceCtorEq, restE, wipeE, Option.getD_some, Option.getD_none, e1, e2, hlen2, e3, e4, hr, a1, a2, a3, a4, et, eo, ei, eq, er, sm, d1, d2] <;> rfl))
end Law

set_option Elab.async false
set_option linter.all false
set_option maxRecDepth 100000
set_option maxHeartbeats 4000000
noncomputable section
namespace Law
open PySem L2 Py
theorem isw_int (x : Int) : f_is_whole [.int x, .non, .non] = .ok (.bl true) := rfl
theorem lint_int (x : Int) : f__law_int [.int x] = .ok (.bl true) := rfl
theorem isw_odd {d : D} (h : IsOdd d) : f_is_whole [d, .non, .non] = .ok (.bl false) := by
  rcases h with rfl | rfl | rfl | rfl | rfl | rfl <;> rfl
theorem lint_odd {d : D} (h : IsOdd d) : f__law_int [d] = .ok (.bl false) := by
  rcases h with rfl | rfl | rfl | rfl | rfl | rfl <;> rfl
abbrev bad (s : Str) : D := .ins 1 ["what"] [.str s]
abbrev two (s : Str) : D := .lst [.str s, .bl true]
theorem mk_top {t b : D} (h : f_is_whole [t, .non, .non] = .ok (.bl false)) : f_make_ratio [t, b] = .exc (bad "top") := by
  unfold f_make_ratio
  refine runF_exc (ρ := [some t, some b]) ?_
  unfold m_make_ratio
  refine sSeq_exc (sIf_of (x := true) (ρ1 := [some t, some b]) ?_ ?_)
  · have e : tfT (eCall 3 f_is_whole [D.non, D.non] (aCons (eVar 0) aNil)) (entry 2 [t, b]) = .ok false [some t, some b] := by
      (simp (disch := first | omega | assumption | (simp only [List.length_cons, List.length_nil, List.length_map, List.length_append, List.length_set]; omega) | (simp only [List.getElem?_cons_zero, List.getElem?_cons_succ]; done)) only [E_c, E_var, E_own, E_bin, E_bin1, E_bin1x, E_bin2, E_bin2x, E_opt, E_un, E_un1, E_un1x, E_nil, E_cons, E_cons1, E_cons1x, E_cons2, E_cons2x, E_aF, E_tB, E_fB, E_fBx, E_tT, E_fT, E_fTx, E_selt, E_self, E_if, E_ifx, E_rOk, E_tAnd, E_tOr, E_tNot, E_fNotR, E_fNotRx, E_and, E_and1, E_and1x, E_or, E_or1, E_or1x, E_not, E_not1, E_not1x, E_eIf, E_selT, E_call, E_call1, E_call1x, E_to, E_tox, E_callN, E_callN1, E_toN, E_callH, E_ifOwn, E_callH1, E_callH2, E_toH, E_ixO, E_ixO1, E_ixO2, E_move, E_move1, E_ownA, E_ownA1, E_ownV, E_varV, E_seq, E_then, E_thenr, E_thenx, E_thenb, E_thenc, E_seqN, E_thenN, E_next, E_brk, E_ct, E_expr, E_expr1, E_expr1x, E_set, E_set1, E_set1x, E_ret, E_ret1, E_ret1x, E_retN, E_ifS, E_ifS1, E_ifS1x, E_asg, E_asg1, E_asg1x, E_asg2, E_nm, E_nilG, E_consG, E_obind, E_tupG2, E_tupG3, E_tupG4, E_par, E_par1, E_app, E_ifOwnS, E_app1, E_app1x, E_app20, E_app2, E_setIx, E_SI1, E_SI2, E_SI3, E_SI4, E_for, E_for1, E_for1x, E_items, E_items1, E_itL, E_itS, E_itT, E_rng1, E_rng11, E_rng2, E_rng21, E_lc, E_lc1, E_lc1x, E_lc2, E_runF, E_runr, E_runn, E_runx, E_runN, E_runNr, E_runH, E_runHr, E_runHn, E_runH2, E_raise1, E_R1, E_raise2, E_R2, E_R22, E_raise0, E_try, E_try1, E_tryr, E_tryx, E_try2, E_try2f, E_beh, E_behr, E_behb, E_behc, E_sl, E_sl1, E_sl2, E_sl3, E_sl3t, E_oN, E_oS, E_oS1, E_ch, E_ch1, E_ch2, E_ch3t, E_ch3f, E_ch4, E_enum, E_enum1, E_zip, E_zip1, E_zip1t, E_add, E_sub, E_neg, E_lt, E_le, E_gt, E_ge, E_eq, E_ne, E_mod, E_trI, E_trB, E_trN, E_trL, E_trT, E_lenL, E_lenT, E_lenS, E_listS, E_intB, E_intI, E_abs, E_listL, E_listT, E_tupleL, E_tupleT, E_dTup0, E_dTup1, E_dTup2, E_dTup3, E_dTup4, E_dTup5, E_dTup6, E_dTup7, E_dTup8, E_dTup9, E_dTup10, E_dTup11, E_dTup12, E_dLst0, E_dLst1, E_dLst2, E_dLst3, E_dLst4, E_dLst5, E_dLst6, E_dLst7, E_dLst8, E_dLst9, E_dLst10, E_dLst11, E_dLst12, E_gcd, E_isNnon, E_notN, E_isB, E_notB, E_ixL, E_ixT, E_at0, E_at1, E_at2, E_at3, E_at4, E_at5, E_isi_int_N, E_isi_int_B, E_isi_int_I, E_isi_int_S, E_isi_int_T, E_isi_int_L, E_isi_int_C, E_isi_bool_N, E_isi_bool_B, E_isi_bool_I, E_isi_bool_S, E_isi_bool_T, E_isi_bool_L, E_isi_bool_C, E_isi_str_N, E_isi_str_B, E_isi_str_I, E_isi_str_S, E_isi_str_T, E_isi_str_L, E_isi_str_C, E_isi_list_N, E_isi_list_B, E_isi_list_I, E_isi_list_S, E_isi_list_T, E_isi_list_L, E_isi_list_C, E_isi_tuple_N, E_isi_tuple_B, E_isi_tuple_I, E_isi_tuple_S, E_isi_tuple_T, E_isi_tuple_L, E_isi_tuple_C, E_isi2_N, E_isi2_B, E_isi2_I, E_isi2_S, E_isi2_T, E_isi2_L, E_isi2_C, E_isN_B, E_notN_B, E_isN_I, E_notN_I, E_isN_S, E_notN_S, E_isN_T, E_notN_T, E_isN_L, E_notN_L, E_isN_C, E_notN_C, E_isa1, E_isa2, E_lk1, E_xf, E_fam, E_mul, E_fdiv, E_ixN, E_decT, E_decF, List.getElem?_cons_zero, List.getElem?_cons_succ, List.set_cons_zero, List.set_cons_succ, List.length_cons, List.length_nil, List.length_map, List.append_nil, List.cons_append, List.nil_append, entry, List.map_cons, List.map_nil, List.replicate_succ, List.replicate_zero, Nat.reduceAdd, Nat.reduceSub, Nat.reduceLT, Nat.reduceLeDiff, Nat.reduceEqDiff, Nat.zero_add, ↓reduceIte, decide_true, decide_false, Bool.not_true, Bool.not_false, eq_self, ne_eq, not_true_eq_false, not_false_eq_true, Int.reduceEq, Int.reduceToNat, Int.toNat_natCast, Int.reduceNe, Int.reduceLT, Int.reduceLE, Int.reduceNeg, Nat.reduceLeDiff, if_true, if_false, decide_not, Bool.true_and, Bool.and_true, Bool.false_and, Bool.and_false, Bool.not_not, reduceCtorEq, restE, wipeE, Option.getD_some, Option.getD_none, h] <;> rfl)
    exact tfNot_of e
  · rfl
theorem mk_bot {b : D} {x : Int} (h : f_is_whole [b, .non, .non] = .ok (.bl false)) : f_make_ratio [.int x, b] = .exc (bad "bottom") := by
  have w := isw_int x
  unfold f_make_ratio
  refine runF_exc (ρ := [some (.int x), some b]) ?_
  unfold m_make_ratio
  refine sSeq_nx (ρ1 := [some (.int x), some b]) (by (simp (disch := first | omega | assumption | (simp only [List.length_cons, List.length_nil, List.length_map, List.length_append, List.length_set]; omega) | (simp only [List.getElem?_cons_zero, List.getElem?_cons_succ]; done)) only [E_c, E_var, E_own, E_bin, E_bin1, E_bin1x, E_bin2, E_bin2x, E_opt, E_un, E_un1, E_un1x, E_nil, E_cons, E_cons1, E_cons1x, E_cons2, E_cons2x, E_aF, E_tB, E_fB, E_fBx, E_tT, E_fT, E_fTx, E_selt, E_self, E_if, E_ifx, E_rOk, E_tAnd, E_tOr, E_tNot, E_fNotR, E_fNotRx, E_and, E_and1, E_and1x, E_or, E_or1, E_or1x, E_not, E_not1, E_not1x, E_eIf, E_selT, E_call, E_call1, E_call1x, E_to, E_tox, E_callN, E_callN1, E_toN, E_callH, E_ifOwn, E_callH1, E_callH2, E_toH, E_ixO, E_ixO1, E_ixO2, E_move, E_move1, E_ownA, E_ownA1, E_ownV, E_varV, E_seq, E_then, E_thenr, E_thenx, E_thenb, E_thenc, E_seqN, E_thenN, E_next, E_brk, E_ct, E_expr, E_expr1, E_expr1x, E_set, E_set1, E_set1x, E_ret, E_ret1, E_ret1x, E_retN, E_ifS, E_ifS1, E_ifS1x, E_asg, E_asg1, E_asg1x, E_asg2, E_nm, E_nilG, E_consG, E_obind, E_tupG2, E_tupG3, E_tupG4, E_par, E_par1, E_app, E_ifOwnS, E_app1, E_app1x, E_app20, E_app2, E_setIx, E_SI1, E_SI2, E_SI3, E_SI4, E_for, E_for1, E_for1x, E_items, E_items1, E_itL, E_itS, E_itT, E_rng1, E_rng11, E_rng2, E_rng21, E_lc, E_lc1, E_lc1x, E_lc2, E_runF, E_runr, E_runn, E_runx, E_runN, E_runNr, E_runH, E_runHr, E_runHn, E_runH2, E_raise1, E_R1, E_raise2, E_R2, E_R22, E_raise0, E_try, E_try1, E_tryr, E_tryx, E_try2, E_try2f, E_beh, E_behr, E_behb, E_behc, E_sl, E_sl1, E_sl2, E_sl3, E_sl3t, E_oN, E_oS, E_oS1, E_ch, E_ch1, E_ch2, E_ch3t, E_ch3f, E_ch4, E_enum, E_enum1, E_zip, E_zip1, E_zip1t, E_add, E_sub, E_neg, E_lt, E_le, E_gt, E_ge, E_eq, E_ne, E_mod, E_trI, E_trB, E_trN, E_trL, E_trT, E_lenL, E_lenT, E_lenS, E_listS, E_intB, E_intI, E_abs, E_listL, E_listT, E_tupleL, E_tupleT, E_dTup0, E_dTup1, E_dTup2, E_dTup3, E_dTup4, E_dTup5, E_dTup6, E_dTup7, E_dTup8, E_dTup9, E_dTup10, E_dTup11, E_dTup12, E_dLst0, E_dLst1, E_dLst2, E_dLst3, E_dLst4, E_dLst5, E_dLst6, E_dLst7, E_dLst8, E_dLst9, E_dLst10, E_dLst11, E_dLst12, E_gcd, E_isNnon, E_notN, E_isB, E_notB, E_ixL, E_ixT, E_at0, E_at1, E_at2, E_at3, E_at4, E_at5, E_isi_int_N, E_isi_int_B, E_isi_int_I, E_isi_int_S, E_isi_int_T, E_isi_int_L, E_isi_int_C, E_isi_bool_N, E_isi_bool_B, E_isi_bool_I, E_isi_bool_S, E_isi_bool_T, E_isi_bool_L, E_isi_bool_C, E_isi_str_N, E_isi_str_B, E_isi_str_I, E_isi_str_S, E_isi_str_T, E_isi_str_L, E_isi_str_C, E_isi_list_N, E_isi_list_B, E_isi_list_I, E_isi_list_S, E_isi_list_T, E_isi_list_L, E_isi_list_C, E_isi_tuple_N, E_isi_tuple_B, E_isi_tuple_I, E_isi_tuple_S, E_isi_tuple_T, E_isi_tuple_L, E_isi_tuple_C, E_isi2_N, E_isi2_B, E_isi2_I, E_isi2_S, E_isi2_T, E_isi2_L, E_isi2_C, E_isN_B, E_notN_B, E_isN_I, E_notN_I, E_isN_S, E_notN_S, E_isN_T, E_notN_T, E_isN_L, E_notN_L, E_isN_C, E_notN_C, E_isa1, E_isa2, E_lk1, E_xf, E_fam, E_mul, E_fdiv, E_ixN, E_decT, E_decF, List.getElem?_cons_zero, List.getElem?_cons_succ, List.set_cons_zero, List.set_cons_succ, List.length_cons, List.length_nil, List.length_map, List.append_nil, List.cons_append, List.nil_append, entry, List.map_cons, List.map_nil, List.replicate_succ, List.replicate_zero, Nat.reduceAdd, Nat.reduceSub, Nat.reduceLT, Nat.reduceLeDiff, Nat.reduceEqDiff, Nat.zero_add, ↓reduceIte, decide_true, decide_false, Bool.not_true, Bool.not_false, eq_self, ne_eq, not_true_eq_false, not_false_eq_true, Int.reduceEq, Int.reduceToNat, Int.toNat_natCast, Int.reduceNe, Int.reduceLT, Int.reduceLE, Int.reduceNeg, Nat.reduceLeDiff, if_true, if_false, decide_not, Bool.true_and, Bool.and_true, Bool.false_and, Bool.and_false, Bool.not_not, reduceCtorEq, restE, wipeE, Option.getD_some, Option.getD_none, w] <;> rfl)) ?_
  refine sSeq_exc (sIf_of (x := true) (ρ1 := [some (.int x), some b]) ?_ ?_)
  · (simp (disch := first | omega | assumption | (simp only [List.length_cons, List.length_nil, List.length_map, List.length_append, List.length_set]; omega) | (simp only [List.getElem?_cons_zero, List.getElem?_cons_succ]; done)) only [E_c, E_var, E_own, E_bin, E_bin1, E_bin1x, E_bin2, E_bin2x, E_opt, E_un, E_un1, E_un1x, E_nil, E_cons, E_cons1, E_cons1x, E_cons2, E_cons2x, E_aF, E_tB, E_fB, E_fBx, E_tT, E_fT, E_fTx, E_selt, E_self, E_if, E_ifx, E_rOk, E_tAnd, E_tOr, E_tNot, E_fNotR, E_fNotRx, E_and, E_and1, E_and1x, E_or, E_or1, E_or1x, E_not, E_not1, E_not1x, E_eIf, E_selT, E_call, E_call1, E_call1x, E_to, E_tox, E_callN, E_callN1, E_toN, E_callH, E_ifOwn, E_callH1, E_callH2, E_toH, E_ixO, E_ixO1, E_ixO2, E_move, E_move1, E_ownA, E_ownA1, E_ownV, E_varV, E_seq, E_then, E_thenr, E_thenx, E_thenb, E_thenc, E_seqN, E_thenN, E_next, E_brk, E_ct, E_expr, E_expr1, E_expr1x, E_set, E_set1, E_set1x, E_ret, E_ret1, E_ret1x, E_retN, E_ifS, E_ifS1, E_ifS1x, E_asg, E_asg1, E_asg1x, E_asg2, E_nm, E_nilG, E_consG, E_obind, E_tupG2, E_tupG3, E_tupG4, E_par, E_par1, E_app, E_ifOwnS, E_app1, E_app1x, E_app20, E_app2, E_setIx, E_SI1, E_SI2, E_SI3, E_SI4, E_for, E_for1, E_for1x, E_items, E_items1, E_itL, E_itS, E_itT, E_rng1, E_rng11, E_rng2, E_rng21, E_lc, E_lc1, E_lc1x, E_lc2, E_runF, E_runr, E_runn, E_runx, E_runN, E_runNr, E_runH, E_runHr, E_runHn, E_runH2, E_raise1, E_R1, E_raise2, E_R2, E_R22, E_raise0, E_try, E_try1, E_tryr, E_tryx, E_try2, E_try2f, E_beh, E_behr, E_behb, E_behc, E_sl, E_sl1, E_sl2, E_sl3, E_sl3t, E_oN, E_oS, E_oS1, E_ch, E_ch1, E_ch2, E_ch3t, E_ch3f, E_ch4, E_enum, E_enum1, E_zip, E_zip1, E_zip1t, E_add, E_sub, E_neg, E_lt, E_le, E_gt, E_ge, E_eq, E_ne, E_mod, E_trI, E_trB, E_trN, E_trL, E_trT, E_lenL, E_lenT, E_lenS, E_listS, E_intB, E_intI, E_abs, E_listL, E_listT, E_tupleL, E_tupleT, E_dTup0, E_dTup1, E_dTup2, E_dTup3, E_dTup4, E_dTup5, E_dTup6, E_dTup7, E_dTup8, E_dTup9, E_dTup10, E_dTup11, E_dTup12, E_dLst0, E_dLst1, E_dLst2, E_dLst3, E_dLst4, E_dLst5, E_dLst6, E_dLst7, E_dLst8, E_dLst9, E_dLst10, E_dLst11, E_dLst12, E_gcd, E_isNnon, E_notN, E_isB, E_notB, E_ixL, E_ixT, E_at0, E_at1, E_at2, E_at3, E_at4, E_at5, E_isi_int_N, E_isi_int_B, E_isi_int_I, E_isi_int_S, E_isi_int_T, E_isi_int_L, E_isi_int_C, E_isi_bool_N, E_isi_bool_B, E_isi_bool_I, E_isi_bool_S, E_isi_bool_T, E_isi_bool_L, E_isi_bool_C, E_isi_str_N, E_isi_str_B, E_isi_str_I, E_isi_str_S, E_isi_str_T, E_isi_str_L, E_isi_str_C, E_isi_list_N, E_isi_list_B, E_isi_list_I, E_isi_list_S, E_isi_list_T, E_isi_list_L, E_isi_list_C, E_isi_tuple_N, E_isi_tuple_B, E_isi_tuple_I, E_isi_tuple_S, E_isi_tuple_T, E_isi_tuple_L, E_isi_tuple_C, E_isi2_N, E_isi2_B, E_isi2_I, E_isi2_S, E_isi2_T, E_isi2_L, E_isi2_C, E_isN_B, E_notN_B, E_isN_I, E_notN_I, E_isN_S, E_notN_S, E_isN_T, E_notN_T, E_isN_L, E_notN_L, E_isN_C, E_notN_C, E_isa1, E_isa2, E_lk1, E_xf, E_fam, E_mul, E_fdiv, E_ixN, E_decT, E_decF, List.getElem?_cons_zero, List.getElem?_cons_succ, List.set_cons_zero, List.set_cons_succ, List.length_cons, List.length_nil, List.length_map, List.append_nil, List.cons_append, List.nil_append, entry, List.map_cons, List.map_nil, List.replicate_succ, List.replicate_zero, Nat.reduceAdd, Nat.reduceSub, Nat.reduceLT, Nat.reduceLeDiff, Nat.reduceEqDiff, Nat.zero_add, ↓reduceIte, decide_true, decide_false, Bool.not_true, Bool.not_false, eq_self, ne_eq, not_true_eq_false, not_false_eq_true, Int.reduceEq, Int.reduceToNat, Int.toNat_natCast, Int.reduceNe, Int.reduceLT, Int.reduceLE, Int.reduceNeg, Nat.reduceLeDiff, if_true, if_false, decide_not, Bool.true_and, Bool.and_true, Bool.false_and, Bool.and_false, Bool.not_not, reduceCtorEq, restE, wipeE, Option.getD_some, Option.getD_none, h] <;> rfl)
  · rfl
theorem mk_zero {x : Int} : f_make_ratio [.int x, .int 0] = .exc (bad "bottom") := by
  have w := isw_int x
  have w0 := isw_int 0
  unfold f_make_ratio
  refine runF_exc (ρ := [some (.int x), some (.int 0)]) ?_
  unfold m_make_ratio
  refine sSeq_nx (ρ1 := [some (.int x), some (.int 0)]) (by (simp (disch := first | omega | assumption | (simp only [List.length_cons, List.length_nil, List.length_map, List.length_append, List.length_set]; omega) | (simp only [List.getElem?_cons_zero, List.getElem?_cons_succ]; done)) only [E_c, E_var, E_own, E_bin, E_bin1, E_bin1x, E_bin2, E_bin2x, E_opt, E_un, E_un1, E_un1x, E_nil, E_cons, E_cons1, E_cons1x, E_cons2, E_cons2x, E_aF, E_tB, E_fB, E_fBx, E_tT, E_fT, E_fTx, E_selt, E_self, E_if, E_ifx, E_rOk, E_tAnd, E_tOr, E_tNot, E_fNotR, E_fNotRx, E_and, E_and1, E_and1x, E_or, E_or1, E_or1x, E_not, E_not1, E_not1x, E_eIf, E_selT, E_call, E_call1, E_call1x, E_to, E_tox, E_callN, E_callN1, E_toN, E_callH, E_ifOwn, E_callH1, E_callH2, E_toH, E_ixO, E_ixO1, E_ixO2, E_move, E_move1, E_ownA, E_ownA1, E_ownV, E_varV, E_seq, E_then, E_thenr, E_thenx, E_thenb, E_thenc, E_seqN, E_thenN, E_next, E_brk, E_ct, E_expr, E_expr1, E_expr1x, E_set, E_set1, E_set1x, E_ret, E_ret1, E_ret1x, E_retN, E_ifS, E_ifS1, E_ifS1x, E_asg, E_asg1, E_asg1x, E_asg2, E_nm, E_nilG, E_consG, E_obind, E_tupG2, E_tupG3, E_tupG4, E_par, E_par1, E_app, E_ifOwnS, E_app1, E_app1x, E_app20, E_app2, E_setIx, E_SI1, E_SI2, E_SI3, E_SI4, E_for, E_for1, E_for1x, E_items, E_items1, E_itL, E_itS, E_itT, E_rng1, E_rng11, E_rng2, E_rng21, E_lc, E_lc1, E_lc1x, E_lc2, E_runF, E_runr, E_runn, E_runx, E_runN, E_runNr, E_runH, E_runHr, E_runHn, E_runH2, E_raise1, E_R1, E_raise2, E_R2, E_R22, E_raise0, E_try, E_try1, E_tryr, E_tryx, E_try2, E_try2f, E_beh, E_behr, E_behb, E_behc, E_sl, E_sl1, E_sl2, E_sl3, E_sl3t, E_oN, E_oS, E_oS1, E_ch, E_ch1, E_ch2, E_ch3t, E_ch3f, E_ch4, E_enum, E_enum1, E_zip, E_zip1, E_zip1t, E_add, E_sub, E_neg, E_lt, E_le, E_gt, E_ge, E_eq, E_ne, E_mod, E_trI, E_trB, E_trN, E_trL, E_trT, E_lenL, E_lenT, E_lenS, E_listS, E_intB, E_intI, E_abs, E_listL, E_listT, E_tupleL, E_tupleT, E_dTup0, E_dTup1, E_dTup2, E_dTup3, E_dTup4, E_dTup5, E_dTup6, E_dTup7, E_dTup8, E_dTup9, E_dTup10, E_dTup11, E_dTup12, E_dLst0, E_dLst1, E_dLst2, E_dLst3, E_dLst4, E_dLst5, E_dLst6, E_dLst7, E_dLst8, E_dLst9, E_dLst10, E_dLst11, E_dLst12, E_gcd, E_isNnon, E_notN, E_isB, E_notB, E_ixL, E_ixT, E_at0, E_at1, E_at2, E_at3, E_at4, E_at5, E_isi_int_N, E_isi_int_B, E_isi_int_I, E_isi_int_S, E_isi_int_T, E_isi_int_L, E_isi_int_C, E_isi_bool_N, E_isi_bool_B, E_isi_bool_I, E_isi_bool_S, E_isi_bool_T, E_isi_bool_L, E_isi_bool_C, E_isi_str_N, E_isi_str_B, E_isi_str_I, E_isi_str_S, E_isi_str_T, E_isi_str_L, E_isi_str_C, E_isi_list_N, E_isi_list_B, E_isi_list_I, E_isi_list_S, E_isi_list_T, E_isi_list_L, E_isi_list_C, E_isi_tuple_N, E_isi_tuple_B, E_isi_tuple_I, E_isi_tuple_S, E_isi_tuple_T, E_isi_tuple_L, E_isi_tuple_C, E_isi2_N, E_isi2_B, E_isi2_I, E_isi2_S, E_isi2_T, E_isi2_L, E_isi2_C, E_isN_B, E_notN_B, E_isN_I, E_notN_I, E_isN_S, E_notN_S, E_isN_T, E_notN_T, E_isN_L, E_notN_L, E_isN_C, E_notN_C, E_isa1, E_isa2, E_lk1, E_xf, E_fam, E_mul, E_fdiv, E_ixN, E_decT, E_decF, List.getElem?_cons_zero, List.getElem?_cons_succ, List.set_cons_zero, List.set_cons_succ, List.length_cons, List.length_nil, List.length_map, List.append_nil, List.cons_append, List.nil_append, entry, List.map_cons, List.map_nil, List.replicate_succ, List.replicate_zero, Nat.reduceAdd, Nat.reduceSub, Nat.reduceLT, Nat.reduceLeDiff, Nat.reduceEqDiff, Nat.zero_add, ↓reduceIte, decide_true, decide_false, Bool.not_true, Bool.not_false, eq_self, ne_eq, not_true_eq_false, not_false_eq_true, Int.reduceEq, Int.reduceToNat, Int.toNat_natCast, Int.reduceNe, Int.reduceLT, Int.reduceLE, Int.reduceNeg, Nat.reduceLeDiff, if_true, if_false, decide_not, Bool.true_and, Bool.and_true, Bool.false_and, Bool.and_false, Bool.not_not, reduceCtorEq, restE, wipeE, Option.getD_some, Option.getD_none, w] <;> rfl)) ?_
  refine sSeq_exc (sIf_of (x := decide ((0 : Int) = 0)) (ρ1 := [some (.int x), some (.int 0)]) ?_ ?_)
  · (simp (disch := first | omega | assumption | (simp only [List.length_cons, List.length_nil, List.length_map, List.length_append, List.length_set]; omega) | (simp only [List.getElem?_cons_zero, List.getElem?_cons_succ]; done)) only [E_c, E_var, E_own, E_bin, E_bin1, E_bin1x, E_bin2, E_bin2x, E_opt, E_un, E_un1, E_un1x, E_nil, E_cons, E_cons1, E_cons1x, E_cons2, E_cons2x, E_aF, E_tB, E_fB, E_fBx, E_tT, E_fT, E_fTx, E_selt, E_self, E_if, E_ifx, E_rOk, E_tAnd, E_tOr, E_tNot, E_fNotR, E_fNotRx, E_and, E_and1, E_and1x, E_or, E_or1, E_or1x, E_not, E_not1, E_not1x, E_eIf, E_selT, E_call, E_call1, E_call1x, E_to, E_tox, E_callN, E_callN1, E_toN, E_callH, E_ifOwn, E_callH1, E_callH2, E_toH, E_ixO, E_ixO1, E_ixO2, E_move, E_move1, E_ownA, E_ownA1, E_ownV, E_varV, E_seq, E_then, E_thenr, E_thenx, E_thenb, E_thenc, E_seqN, E_thenN, E_next, E_brk, E_ct, E_expr, E_expr1, E_expr1x, E_set, E_set1, E_set1x, E_ret, E_ret1, E_ret1x, E_retN, E_ifS, E_ifS1, E_ifS1x, E_asg, E_asg1, E_asg1x, E_asg2, E_nm, E_nilG, E_consG, E_obind, E_tupG2, E_tupG3, E_tupG4, E_par, E_par1, E_app, E_ifOwnS, E_app1, E_app1x, E_app20, E_app2, E_setIx, E_SI1, E_SI2, E_SI3, E_SI4, E_for, E_for1, E_for1x, E_items, E_items1, E_itL, E_itS, E_itT, E_rng1, E_rng11, E_rng2, E_rng21, E_lc, E_lc1, E_lc1x, E_lc2, E_runF, E_runr, E_runn, E_runx, E_runN, E_runNr, E_runH, E_runHr, E_runHn, E_runH2, E_raise1, E_R1, E_raise2, E_R2, E_R22, E_raise0, E_try, E_try1, E_tryr, E_tryx, E_try2, E_try2f, E_beh, E_behr, E_behb, E_behc, E_sl, E_sl1, E_sl2, E_sl3, E_sl3t, E_oN, E_oS, E_oS1, E_ch, E_ch1, E_ch2, E_ch3t, E_ch3f, E_ch4, E_enum, E_enum1, E_zip, E_zip1, E_zip1t, E_add, E_sub, E_neg, E_lt, E_le, E_gt, E_ge, E_eq, E_ne, E_mod, E_trI, E_trB, E_trN, E_trL, E_trT, E_lenL, E_lenT, E_lenS, E_listS, E_intB, E_intI, E_abs, E_listL, E_listT, E_tupleL, E_tupleT, E_dTup0, E_dTup1, E_dTup2, E_dTup3, E_dTup4, E_dTup5, E_dTup6, E_dTup7, E_dTup8, E_dTup9, E_dTup10, E_dTup11, E_dTup12, E_dLst0, E_dLst1, E_dLst2, E_dLst3, E_dLst4, E_dLst5, E_dLst6, E_dLst7, E_dLst8, E_dLst9, E_dLst10, E_dLst11, E_dLst12, E_gcd, E_isNnon, E_notN, E_isB, E_notB, E_ixL, E_ixT, E_at0, E_at1, E_at2, E_at3, E_at4, E_at5, E_isi_int_N, E_isi_int_B, E_isi_int_I, E_isi_int_S, E_isi_int_T, E_isi_int_L, E_isi_int_C, E_isi_bool_N, E_isi_bool_B, E_isi_bool_I, E_isi_bool_S, E_isi_bool_T, E_isi_bool_L, E_isi_bool_C, E_isi_str_N, E_isi_str_B, E_isi_str_I, E_isi_str_S, E_isi_str_T, E_isi_str_L, E_isi_str_C, E_isi_list_N, E_isi_list_B, E_isi_list_I, E_isi_list_S, E_isi_list_T, E_isi_list_L, E_isi_list_C, E_isi_tuple_N, E_isi_tuple_B, E_isi_tuple_I, E_isi_tuple_S, E_isi_tuple_T, E_isi_tuple_L, E_isi_tuple_C, E_isi2_N, E_isi2_B, E_isi2_I, E_isi2_S, E_isi2_T, E_isi2_L, E_isi2_C, E_isN_B, E_notN_B, E_isN_I, E_notN_I, E_isN_S, E_notN_S, E_isN_T, E_notN_T, E_isN_L, E_notN_L, E_isN_C, E_notN_C, E_isa1, E_isa2, E_lk1, E_xf, E_fam, E_mul, E_fdiv, E_ixN, E_decT, E_decF, List.getElem?_cons_zero, List.getElem?_cons_succ, List.set_cons_zero, List.set_cons_succ, List.length_cons, List.length_nil, List.length_map, List.append_nil, List.cons_append, List.nil_append, entry, List.map_cons, List.map_nil, List.replicate_succ, List.replicate_zero, Nat.reduceAdd, Nat.reduceSub, Nat.reduceLT, Nat.reduceLeDiff, Nat.reduceEqDiff, Nat.zero_add, ↓reduceIte, decide_true, decide_false, Bool.not_true, Bool.not_false, eq_self, ne_eq, not_true_eq_false, not_false_eq_true, Int.reduceEq, Int.reduceToNat, Int.toNat_natCast, Int.reduceNe, Int.reduceLT, Int.reduceLE, Int.reduceNeg, Nat.reduceLeDiff, if_true, if_false, decide_not, Bool.true_and, Bool.and_true, Bool.false_and, Bool.and_false, Bool.not_not, reduceCtorEq, restE, wipeE, Option.getD_some, Option.getD_none, w0] <;> rfl)
  · rfl
theorem mk_ok {x y : Int} (hy : y ≠ 0) (hb : Bd 140 y) : f_make_ratio [.int x, .int y] = .ok (Lw x y) := by
  have w := isw_int x
  have w0 := isw_int y
  have e := pl_low x y hy (hb.mono (by decide))
  unfold f_make_ratio m_make_ratio
  (simp (disch := first | omega | assumption | (simp only [List.length_cons, List.length_nil, List.length_map, List.length_append, List.length_set]; omega) | (simp only [List.getElem?_cons_zero, List.getElem?_cons_succ]; done)) only [E_c, E_var, E_own, E_bin, E_bin1, E_bin1x, E_bin2, E_bin2x, E_opt, E_un, E_un1, E_un1x, E_nil, E_cons, E_cons1, E_cons1x, E_cons2, E_cons2x, E_aF, E_tB, E_fB, E_fBx, E_tT, E_fT, E_fTx, E_selt, E_self, E_if, E_ifx, E_rOk, E_tAnd, E_tOr, E_tNot, E_fNotR, E_fNotRx, E_and, E_and1, E_and1x, E_or, E_or1, E_or1x, E_not, E_not1, E_not1x, E_eIf, E_selT, E_call, E_call1, E_call1x, E_to, E_tox, E_callN, E_callN1, E_toN, E_callH, E_ifOwn, E_callH1, E_callH2, E_toH, E_ixO, E_ixO1, E_ixO2, E_move, E_move1, E_ownA, E_ownA1, E_ownV, E_varV, E_seq, E_then, E_thenr, E_thenx, E_thenb, E_thenc, E_seqN, E_thenN, E_next, E_brk, E_ct, E_expr, E_expr1, E_expr1x, E_set, E_set1, E_set1x, E_ret, E_ret1, E_ret1x, E_retN, E_ifS, E_ifS1, E_ifS1x, E_asg, E_asg1, E_asg1x, E_asg2, E_nm, E_nilG, E_consG, E_obind, E_tupG2, E_tupG3, E_tupG4, E_par, E_par1, E_app, E_ifOwnS, E_app1, E_app1x, E_app20, E_app2, E_setIx, E_SI1, E_SI2, E_SI3, E_SI4, E_for, E_for1, E_for1x, E_items, E_items1, E_itL, E_itS, E_itT, E_rng1, E_rng11, E_rng2, E_rng21, E_lc, E_lc1, E_lc1x, E_lc2, E_runF, E_runr, E_runn, E_runx, E_runN, E_runNr, E_runH, E_runHr, E_runHn, E_runH2, E_raise1, E_R1, E_raise2, E_R2, E_R22, E_raise0, E_try, E_try1, E_tryr, E_tryx, E_try2, E_try2f, E_beh, E_behr, E_behb, E_behc, E_sl, E_sl1, E_sl2, E_sl3, E_sl3t, E_oN, E_oS, E_oS1, E_ch, E_ch1, E_ch2, E_ch3t, E_ch3f, E_ch4, E_enum, E_enum1, E_zip, E_zip1, E_zip1t, E_add, E_sub, E_neg, E_lt, E_le, E_gt, E_ge, E_eq, E_ne, E_mod, E_trI, E_trB, E_trN, E_trL, E_trT, E_lenL, E_lenT, E_lenS, E_listS, E_intB, E_intI, E_abs, E_listL, E_listT, E_tupleL, E_tupleT, E_dTup0, E_dTup1, E_dTup2, E_dTup3, E_dTup4, E_dTup5, E_dTup6, E_dTup7, E_dTup8, E_dTup9, E_dTup10, E_dTup11, E_dTup12, E_dLst0, E_dLst1, E_dLst2, E_dLst3, E_dLst4, E_dLst5, E_dLst6, E_dLst7, E_dLst8, E_dLst9, E_dLst10, E_dLst11, E_dLst12, E_gcd, E_isNnon, E_notN, E_isB, E_notB, E_ixL, E_ixT, E_at0, E_at1, E_at2, E_at3, E_at4, E_at5, E_isi_int_N, E_isi_int_B, E_isi_int_I, E_isi_int_S, E_isi_int_T, E_isi_int_L, E_isi_int_C, E_isi_bool_N, E_isi_bool_B, E_isi_bool_I, E_isi_bool_S, E_isi_bool_T, E_isi_bool_L, E_isi_bool_C, E_isi_str_N, E_isi_str_B, E_isi_str_I, E_isi_str_S, E_isi_str_T, E_isi_str_L, E_isi_str_C, E_isi_list_N, E_isi_list_B, E_isi_list_I, E_isi_list_S, E_isi_list_T, E_isi_list_L, E_isi_list_C, E_isi_tuple_N, E_isi_tuple_B, E_isi_tuple_I, E_isi_tuple_S, E_isi_tuple_T, E_isi_tuple_L, E_isi_tuple_C, E_isi2_N, E_isi2_B, E_isi2_I, E_isi2_S, E_isi2_T, E_isi2_L, E_isi2_C, E_isN_B, E_notN_B, E_isN_I, E_notN_I, E_isN_S, E_notN_S, E_isN_T, E_notN_T, E_isN_L, E_notN_L, E_isN_C, E_notN_C, E_isa1, E_isa2, E_lk1, E_xf, E_fam, E_mul, E_fdiv, E_ixN, E_decT, E_decF, List.getElem?_cons_zero, List.getElem?_cons_succ, List.set_cons_zero, List.set_cons_succ, List.length_cons, List.length_nil, List.length_map, List.append_nil, List.cons_append, List.nil_append, entry, List.map_cons, List.map_nil, List.replicate_succ, List.replicate_zero, Nat.reduceAdd, Nat.reduceSub, Nat.reduceLT, Nat.reduceLeDiff, Nat.reduceEqDiff, Nat.zero_add, ↓reduceIte, decide_true, decide_false, Bool.not_true, Bool.not_false, eq_self, ne_eq, not_true_eq_false, not_false_eq_true, Int.reduceEq, Int.reduceToNat, Int.toNat_natCast, Int.reduceNe, Int.reduceLT, Int.reduceLE, Int.reduceNeg, Nat.reduceLeDiff, if_true, if_false, decide_not, Bool.true_and, Bool.and_true, Bool.false_and, Bool.and_false, Bool.not_not, reduceCtorEq, restE, wipeE, Option.getD_some, Option.getD_none, w, w0, e] <;> rfl)
theorem made_ok {t b v : D} (h : f_make_ratio [t, b] = .ok v) : f__law_made [t, b, .bl false] = .ok v := by
  unfold f__law_made m__law_made
  (simp (disch := first | omega | assumption | (simp only [List.length_cons, List.length_nil, List.length_map, List.length_append, List.length_set]; omega) | (simp only [List.getElem?_cons_zero, List.getElem?_cons_succ]; done)) only [E_c, E_var, E_own, E_bin, E_bin1, E_bin1x, E_bin2, E_bin2x, E_opt, E_un, E_un1, E_un1x, E_nil, E_cons, E_cons1, E_cons1x, E_cons2, E_cons2x, E_aF, E_tB, E_fB, E_fBx, E_tT, E_fT, E_fTx, E_selt, E_self, E_if, E_ifx, E_rOk, E_tAnd, E_tOr, E_tNot, E_fNotR, E_fNotRx, E_and, E_and1, E_and1x, E_or, E_or1, E_or1x, E_not, E_not1, E_not1x, E_eIf, E_selT, E_call, E_call1, E_call1x, E_to, E_tox, E_callN, E_callN1, E_toN, E_callH, E_ifOwn, E_callH1, E_callH2, E_toH, E_ixO, E_ixO1, E_ixO2, E_move, E_move1, E_ownA, E_ownA1, E_ownV, E_varV, E_seq, E_then, E_thenr, E_thenx, E_thenb, E_thenc, E_seqN, E_thenN, E_next, E_brk, E_ct, E_expr, E_expr1, E_expr1x, E_set, E_set1, E_set1x, E_ret, E_ret1, E_ret1x, E_retN, E_ifS, E_ifS1, E_ifS1x, E_asg, E_asg1, E_asg1x, E_asg2, E_nm, E_nilG, E_consG, E_obind, E_tupG2, E_tupG3, E_tupG4, E_par, E_par1, E_app, E_ifOwnS, E_app1, E_app1x, E_app20, E_app2, E_setIx, E_SI1, E_SI2, E_SI3, E_SI4, E_for, E_for1, E_for1x, E_items, E_items1, E_itL, E_itS, E_itT, E_rng1, E_rng11, E_rng2, E_rng21, E_lc, E_lc1, E_lc1x, E_lc2, E_runF, E_runr, E_runn, E_runx, E_runN, E_runNr, E_runH, E_runHr, E_runHn, E_runH2, E_raise1, E_R1, E_raise2, E_R2, E_R22, E_raise0, E_try, E_try1, E_tryr, E_tryx, E_try2, E_try2f, E_beh, E_behr, E_behb, E_behc, E_sl, E_sl1, E_sl2, E_sl3, E_sl3t, E_oN, E_oS, E_oS1, E_ch, E_ch1, E_ch2, E_ch3t, E_ch3f, E_ch4, E_enum, E_enum1, E_zip, E_zip1, E_zip1t, E_add, E_sub, E_neg, E_lt, E_le, E_gt, E_ge, E_eq, E_ne, E_mod, E_trI, E_trB, E_trN, E_trL, E_trT, E_lenL, E_lenT, E_lenS, E_listS, E_intB, E_intI, E_abs, E_listL, E_listT, E_tupleL, E_tupleT, E_dTup0, E_dTup1, E_dTup2, E_dTup3, E_dTup4, E_dTup5, E_dTup6, E_dTup7, E_dTup8, E_dTup9, E_dTup10, E_dTup11, E_dTup12, E_dLst0, E_dLst1, E_dLst2, E_dLst3, E_dLst4, E_dLst5, E_dLst6, E_dLst7, E_dLst8, E_dLst9, E_dLst10, E_dLst11, E_dLst12, E_gcd, E_isNnon, E_notN, E_isB, E_notB, E_ixL, E_ixT, E_at0, E_at1, E_at2, E_at3, E_at4, E_at5, E_isi_int_N, E_isi_int_B, E_isi_int_I, E_isi_int_S, E_isi_int_T, E_isi_int_L, E_isi_int_C, E_isi_bool_N, E_isi_bool_B, E_isi_bool_I, E_isi_bool_S, E_isi_bool_T, E_isi_bool_L, E_isi_bool_C, E_isi_str_N, E_isi_str_B, E_isi_str_I, E_isi_str_S, E_isi_str_T, E_isi_str_L, E_isi_str_C, E_isi_list_N, E_isi_list_B, E_isi_list_I, E_isi_list_S, E_isi_list_T, E_isi_list_L, E_isi_list_C, E_isi_tuple_N, E_isi_tuple_B, E_isi_tuple_I, E_isi_tuple_S, E_isi_tuple_T, E_isi_tuple_L, E_isi_tuple_C, E_isi2_N, E_isi2_B, E_isi2_I, E_isi2_S, E_isi2_T, E_isi2_L, E_isi2_C, E_isN_B, E_notN_B, E_isN_I, E_notN_I, E_isN_S, E_notN_S, E_isN_T, E_notN_T, E_isN_L, E_notN_L, E_isN_C, E_notN_C, E_isa1, E_isa2, E_lk1, E_xf, E_fam, E_mul, E_fdiv, E_ixN, E_decT, E_decF, List.getElem?_cons_zero, List.getElem?_cons_succ, List.set_cons_zero, List.set_cons_succ, List.length_cons, List.length_nil, List.length_map, List.append_nil, List.cons_append, List.nil_append, entry, List.map_cons, List.map_nil, List.replicate_succ, List.replicate_zero, Nat.reduceAdd, Nat.reduceSub, Nat.reduceLT, Nat.reduceLeDiff, Nat.reduceEqDiff, Nat.zero_add, ↓reduceIte, decide_true, decide_false, Bool.not_true, Bool.not_false, eq_self, ne_eq, not_true_eq_false, not_false_eq_true, Int.reduceEq, Int.reduceToNat, Int.toNat_natCast, Int.reduceNe, Int.reduceLT, Int.reduceLE, Int.reduceNeg, Nat.reduceLeDiff, if_true, if_false, decide_not, Bool.true_and, Bool.and_true, Bool.false_and, Bool.and_false, Bool.not_not, reduceCtorEq, restE, wipeE, Option.getD_some, Option.getD_none, h, bad, two] <;> rfl)
theorem made_okS {t v : D} (h : f_make_ratio [t, .int 1] = .ok v) : f__law_made [t, .int 1, .bl true] = .ok v := by
  unfold f__law_made m__law_made
  (simp (disch := first | omega | assumption | (simp only [List.length_cons, List.length_nil, List.length_map, List.length_append, List.length_set]; omega) | (simp only [List.getElem?_cons_zero, List.getElem?_cons_succ]; done)) only [E_c, E_var, E_own, E_bin, E_bin1, E_bin1x, E_bin2, E_bin2x, E_opt, E_un, E_un1, E_un1x, E_nil, E_cons, E_cons1, E_cons1x, E_cons2, E_cons2x, E_aF, E_tB, E_fB, E_fBx, E_tT, E_fT, E_fTx, E_selt, E_self, E_if, E_ifx, E_rOk, E_tAnd, E_tOr, E_tNot, E_fNotR, E_fNotRx, E_and, E_and1, E_and1x, E_or, E_or1, E_or1x, E_not, E_not1, E_not1x, E_eIf, E_selT, E_call, E_call1, E_call1x, E_to, E_tox, E_callN, E_callN1, E_toN, E_callH, E_ifOwn, E_callH1, E_callH2, E_toH, E_ixO, E_ixO1, E_ixO2, E_move, E_move1, E_ownA, E_ownA1, E_ownV, E_varV, E_seq, E_then, E_thenr, E_thenx, E_thenb, E_thenc, E_seqN, E_thenN, E_next, E_brk, E_ct, E_expr, E_expr1, E_expr1x, E_set, E_set1, E_set1x, E_ret, E_ret1, E_ret1x, E_retN, E_ifS, E_ifS1, E_ifS1x, E_asg, E_asg1, E_asg1x, E_asg2, E_nm, E_nilG, E_consG, E_obind, E_tupG2, E_tupG3, E_tupG4, E_par, E_par1, E_app, E_ifOwnS, E_app1, E_app1x, E_app20, E_app2, E_setIx, E_SI1, E_SI2, E_SI3, E_SI4, E_for, E_for1, E_for1x, E_items, E_items1, E_itL, E_itS, E_itT, E_rng1, E_rng11, E_rng2, E_rng21, E_lc, E_lc1, E_lc1x, E_lc2, E_runF, E_runr, E_runn, E_runx, E_runN, E_runNr, E_runH, E_runHr, E_runHn, E_runH2, E_raise1, E_R1, E_raise2, E_R2, E_R22, E_raise0, E_try, E_try1, E_tryr, E_tryx, E_try2, E_try2f, E_beh, E_behr, E_behb, E_behc, E_sl, E_sl1, E_sl2, E_sl3, E_sl3t, E_oN, E_oS, E_oS1, E_ch, E_ch1, E_ch2, E_ch3t, E_ch3f, E_ch4, E_enum, E_enum1, E_zip, E_zip1, E_zip1t, E_add, E_sub, E_neg, E_lt, E_le, E_gt, E_ge, E_eq, E_ne, E_mod, E_trI, E_trB, E_trN, E_trL, E_trT, E_lenL, E_lenT, E_lenS, E_listS, E_intB, E_intI, E_abs, E_listL, E_listT, E_tupleL, E_tupleT, E_dTup0, E_dTup1, E_dTup2, E_dTup3, E_dTup4, E_dTup5, E_dTup6, E_dTup7, E_dTup8, E_dTup9, E_dTup10, E_dTup11, E_dTup12, E_dLst0, E_dLst1, E_dLst2, E_dLst3, E_dLst4, E_dLst5, E_dLst6, E_dLst7, E_dLst8, E_dLst9, E_dLst10, E_dLst11, E_dLst12, E_gcd, E_isNnon, E_notN, E_isB, E_notB, E_ixL, E_ixT, E_at0, E_at1, E_at2, E_at3, E_at4, E_at5, E_isi_int_N, E_isi_int_B, E_isi_int_I, E_isi_int_S, E_isi_int_T, E_isi_int_L, E_isi_int_C, E_isi_bool_N, E_isi_bool_B, E_isi_bool_I, E_isi_bool_S, E_isi_bool_T, E_isi_bool_L, E_isi_bool_C, E_isi_str_N, E_isi_str_B, E_isi_str_I, E_isi_str_S, E_isi_str_T, E_isi_str_L, E_isi_str_C, E_isi_list_N, E_isi_list_B, E_isi_list_I, E_isi_list_S, E_isi_list_T, E_isi_list_L, E_isi_list_C, E_isi_tuple_N, E_isi_tuple_B, E_isi_tuple_I, E_isi_tuple_S, E_isi_tuple_T, E_isi_tuple_L, E_isi_tuple_C, E_isi2_N, E_isi2_B, E_isi2_I, E_isi2_S, E_isi2_T, E_isi2_L, E_isi2_C, E_isN_B, E_notN_B, E_isN_I, E_notN_I, E_isN_S, E_notN_S, E_isN_T, E_notN_T, E_isN_L, E_notN_L, E_isN_C, E_notN_C, E_isa1, E_isa2, E_lk1, E_xf, E_fam, E_mul, E_fdiv, E_ixN, E_decT, E_decF, List.getElem?_cons_zero, List.getElem?_cons_succ, List.set_cons_zero, List.set_cons_succ, List.length_cons, List.length_nil, List.length_map, List.append_nil, List.cons_append, List.nil_append, entry, List.map_cons, List.map_nil, List.replicate_succ, List.replicate_zero, Nat.reduceAdd, Nat.reduceSub, Nat.reduceLT, Nat.reduceLeDiff, Nat.reduceEqDiff, Nat.zero_add, ↓reduceIte, decide_true, decide_false, Bool.not_true, Bool.not_false, eq_self, ne_eq, not_true_eq_false, not_false_eq_true, Int.reduceEq, Int.reduceToNat, Int.toNat_natCast, Int.reduceNe, Int.reduceLT, Int.reduceLE, Int.reduceNeg, Nat.reduceLeDiff, if_true, if_false, decide_not, Bool.true_and, Bool.and_true, Bool.false_and, Bool.and_false, Bool.not_not, reduceCtorEq, restE, wipeE, Option.getD_some, Option.getD_none, h, bad, two] <;> rfl)
theorem made_exc {t b : D} {s : Str} (h : f_make_ratio [t, b] = .exc (bad s)) : f__law_made [t, b, .bl false] = .ok (two s) := by
  unfold f__law_made m__law_made
  (simp (disch := first | omega | assumption | (simp only [List.length_cons, List.length_nil, List.length_map, List.length_append, List.length_set]; omega) | (simp only [List.getElem?_cons_zero, List.getElem?_cons_succ]; done)) only [E_c, E_var, E_own, E_bin, E_bin1, E_bin1x, E_bin2, E_bin2x, E_opt, E_un, E_un1, E_un1x, E_nil, E_cons, E_cons1, E_cons1x, E_cons2, E_cons2x, E_aF, E_tB, E_fB, E_fBx, E_tT, E_fT, E_fTx, E_selt, E_self, E_if, E_ifx, E_rOk, E_tAnd, E_tOr, E_tNot, E_fNotR, E_fNotRx, E_and, E_and1, E_and1x, E_or, E_or1, E_or1x, E_not, E_not1, E_not1x, E_eIf, E_selT, E_call, E_call1, E_call1x, E_to, E_tox, E_callN, E_callN1, E_toN, E_callH, E_ifOwn, E_callH1, E_callH2, E_toH, E_ixO, E_ixO1, E_ixO2, E_move, E_move1, E_ownA, E_ownA1, E_ownV, E_varV, E_seq, E_then, E_thenr, E_thenx, E_thenb, E_thenc, E_seqN, E_thenN, E_next, E_brk, E_ct, E_expr, E_expr1, E_expr1x, E_set, E_set1, E_set1x, E_ret, E_ret1, E_ret1x, E_retN, E_ifS, E_ifS1, E_ifS1x, E_asg, E_asg1, E_asg1x, E_asg2, E_nm, E_nilG, E_consG, E_obind, E_tupG2, E_tupG3, E_tupG4, E_par, E_par1, E_app, E_ifOwnS, E_app1, E_app1x, E_app20, E_app2, E_setIx, E_SI1, E_SI2, E_SI3, E_SI4, E_for, E_for1, E_for1x, E_items, E_items1, E_itL, E_itS, E_itT, E_rng1, E_rng11, E_rng2, E_rng21, E_lc, E_lc1, E_lc1x, E_lc2, E_runF, E_runr, E_runn, E_runx, E_runN, E_runNr, E_runH, E_runHr, E_runHn, E_runH2, E_raise1, E_R1, E_raise2, E_R2, E_R22, E_raise0, E_try, E_try1, E_tryr, E_tryx, E_try2, E_try2f, E_beh, E_behr, E_behb, E_behc, E_sl, E_sl1, E_sl2, E_sl3, E_sl3t, E_oN, E_oS, E_oS1, E_ch, E_ch1, E_ch2, E_ch3t, E_ch3f, E_ch4, E_enum, E_enum1, E_zip, E_zip1, E_zip1t, E_add, E_sub, E_neg, E_lt, E_le, E_gt, E_ge, E_eq, E_ne, E_mod, E_trI, E_trB, E_trN, E_trL, E_trT, E_lenL, E_lenT, E_lenS, E_listS, E_intB, E_intI, E_abs, E_listL, E_listT, E_tupleL, E_tupleT, E_dTup0, E_dTup1, E_dTup2, E_dTup3, E_dTup4, E_dTup5, E_dTup6, E_dTup7, E_dTup8, E_dTup9, E_dTup10, E_dTup11, E_dTup12, E_dLst0, E_dLst1, E_dLst2, E_dLst3, E_dLst4, E_dLst5, E_dLst6, E_dLst7, E_dLst8, E_dLst9, E_dLst10, E_dLst11, E_dLst12, E_gcd, E_isNnon, E_notN, E_isB, E_notB, E_ixL, E_ixT, E_at0, E_at1, E_at2, E_at3, E_at4, E_at5, E_isi_int_N, E_isi_int_B, E_isi_int_I, E_isi_int_S, E_isi_int_T, E_isi_int_L, E_isi_int_C, E_isi_bool_N, E_isi_bool_B, E_isi_bool_I, E_isi_bool_S, E_isi_bool_T, E_isi_bool_L, E_isi_bool_C, E_isi_str_N, E_isi_str_B, E_isi_str_I, E_isi_str_S, E_isi_str_T, E_isi_str_L, E_isi_str_C, E_isi_list_N, E_isi_list_B, E_isi_list_I, E_isi_list_S, E_isi_list_T, E_isi_list_L, E_isi_list_C, E_isi_tuple_N, E_isi_tuple_B, E_isi_tuple_I, E_isi_tuple_S, E_isi_tuple_T, E_isi_tuple_L, E_isi_tuple_C, E_isi2_N, E_isi2_B, E_isi2_I, E_isi2_S, E_isi2_T, E_isi2_L, E_isi2_C, E_isN_B, E_notN_B, E_isN_I, E_notN_I, E_isN_S, E_notN_S, E_isN_T, E_notN_T, E_isN_L, E_notN_L, E_isN_C, E_notN_C, E_isa1, E_isa2, E_lk1, E_xf, E_fam, E_mul, E_fdiv, E_ixN, E_decT, E_decF, List.getElem?_cons_zero, List.getElem?_cons_succ, List.set_cons_zero, List.set_cons_succ, List.length_cons, List.length_nil, List.length_map, List.append_nil, List.cons_append, List.nil_append, entry, List.map_cons, List.map_nil, List.replicate_succ, List.replicate_zero, Nat.reduceAdd, Nat.reduceSub, Nat.reduceLT, Nat.reduceLeDiff, Nat.reduceEqDiff, Nat.zero_add, ↓reduceIte, decide_true, decide_false, Bool.not_true, Bool.not_false, eq_self, ne_eq, not_true_eq_false, not_false_eq_true, Int.reduceEq, Int.reduceToNat, Int.toNat_natCast, Int.reduceNe, Int.reduceLT, Int.reduceLE, Int.reduceNeg, Nat.reduceLeDiff, if_true, if_false, decide_not, Bool.true_and, Bool.and_true, Bool.false_and, Bool.and_false, Bool.not_not, reduceCtorEq, restE, wipeE, Option.getD_some, Option.getD_none, h, bad, two] <;> rfl)
theorem made_excS {t : D} {s : Str} (h : f_make_ratio [t, .int 1] = .exc (bad s)) : f__law_made [t, .int 1, .bl true] = .ok (two s) := by
  unfold f__law_made m__law_made
  (simp (disch := first | omega | assumption | (simp only [List.length_cons, List.length_nil, List.length_map, List.length_append, List.length_set]; omega) | (simp only [List.getElem?_cons_zero, List.getElem?_cons_succ]; done)) only [E_c, E_var, E_own, E_bin, E_bin1, E_bin1x, E_bin2, E_bin2x, E_opt, E_un, E_un1, E_un1x, E_nil, E_cons, E_cons1, E_cons1x, E_cons2, E_cons2x, E_aF, E_tB, E_fB, E_fBx, E_tT, E_fT, E_fTx, E_selt, E_self, E_if, E_ifx, E_rOk, E_tAnd, E_tOr, E_tNot, E_fNotR, E_fNotRx, E_and, E_and1, E_and1x, E_or, E_or1, E_or1x, E_not, E_not1, E_not1x, E_eIf, E_selT, E_call, E_call1, E_call1x, E_to, E_tox, E_callN, E_callN1, E_toN, E_callH, E_ifOwn, E_callH1, E_callH2, E_toH, E_ixO, E_ixO1, E_ixO2, E_move, E_move1, E_ownA, E_ownA1, E_ownV, E_varV, E_seq, E_then, E_thenr, E_thenx, E_thenb, E_thenc, E_seqN, E_thenN, E_next, E_brk, E_ct, E_expr, E_expr1, E_expr1x, E_set, E_set1, E_set1x, E_ret, E_ret1, E_ret1x, E_retN, E_ifS, E_ifS1, E_ifS1x, E_asg, E_asg1, E_asg1x, E_asg2, E_nm, E_nilG, E_consG, E_obind, E_tupG2, E_tupG3, E_tupG4, E_par, E_par1, E_app, E_ifOwnS, E_app1, E_app1x, E_app20, E_app2, E_setIx, E_SI1, E_SI2, E_SI3, E_SI4, E_for, E_for1, E_for1x, E_items, E_items1, E_itL, E_itS, E_itT, E_rng1, E_rng11, E_rng2, E_rng21, E_lc, E_lc1, E_lc1x, E_lc2, E_runF, E_runr, E_runn, E_runx, E_runN, E_runNr, E_runH, E_runHr, E_runHn, E_runH2, E_raise1, E_R1, E_raise2, E_R2, E_R22, E_raise0, E_try, E_try1, E_tryr, E_tryx, E_try2, E_try2f, E_beh, E_behr, E_behb, E_behc, E_sl, E_sl1, E_sl2, E_sl3, E_sl3t, E_oN, E_oS, E_oS1, E_ch, E_ch1, E_ch2, E_ch3t, E_ch3f, E_ch4, E_enum, E_enum1, E_zip, E_zip1, E_zip1t, E_add, E_sub, E_neg, E_lt, E_le, E_gt, E_ge, E_eq, E_ne, E_mod, E_trI, E_trB, E_trN, E_trL, E_trT, E_lenL, E_lenT, E_lenS, E_listS, E_intB, E_intI, E_abs, E_listL, E_listT, E_tupleL, E_tupleT, E_dTup0, E_dTup1, E_dTup2, E_dTup3, E_dTup4, E_dTup5, E_dTup6, E_dTup7, E_dTup8, E_dTup9, E_dTup10, E_dTup11, E_dTup12, E_dLst0, E_dLst1, E_dLst2, E_dLst3, E_dLst4, E_dLst5, E_dLst6, E_dLst7, E_dLst8, E_dLst9, E_dLst10, E_dLst11, E_dLst12, E_gcd, E_isNnon, E_notN, E_isB, E_notB, E_ixL, E_ixT, E_at0, E_at1, E_at2, E_at3, E_at4, E_at5, E_isi_int_N, E_isi_int_B, E_isi_int_I, E_isi_int_S, E_isi_int_T, E_isi_int_L, E_isi_int_C, E_isi_bool_N, E_isi_bool_B, E_isi_bool_I, E_isi_bool_S, E_isi_bool_T, E_isi_bool_L, E_isi_bool_C, E_isi_str_N, E_isi_str_B, E_isi_str_I, E_isi_str_S, E_isi_str_T, E_isi_str_L, E_isi_str_C, E_isi_list_N, E_isi_list_B, E_isi_list_I, E_isi_list_S, E_isi_list_T, E_isi_list_L, E_isi_list_C, E_isi_tuple_N, E_isi_tuple_B, E_isi_tuple_I, E_isi_tuple_S, E_isi_tuple_T, E_isi_tuple_L, E_isi_tuple_C, E_isi2_N, E_isi2_B, E_isi2_I, E_isi2_S, E_isi2_T, E_isi2_L, E_isi2_C, E_isN_B, E_notN_B, E_isN_I, E_notN_I, E_isN_S, E_notN_S, E_isN_T, E_notN_T, E_isN_L, E_notN_L, E_isN_C, E_notN_C, E_isa1, E_isa2, E_lk1, E_xf, E_fam, E_mul, E_fdiv, E_ixN, E_decT, E_decF, List.getElem?_cons_zero, List.getElem?_cons_succ, List.set_cons_zero, List.set_cons_succ, List.length_cons, List.length_nil, List.length_map, List.append_nil, List.cons_append, List.nil_append, entry, List.map_cons, List.map_nil, List.replicate_succ, List.replicate_zero, Nat.reduceAdd, Nat.reduceSub, Nat.reduceLT, Nat.reduceLeDiff, Nat.reduceEqDiff, Nat.zero_add, ↓reduceIte, decide_true, decide_false, Bool.not_true, Bool.not_false, eq_self, ne_eq, not_true_eq_false, not_false_eq_true, Int.reduceEq, Int.reduceToNat, Int.toNat_natCast, Int.reduceNe, Int.reduceLT, Int.reduceLE, Int.reduceNeg, Nat.reduceLeDiff, if_true, if_false, decide_not, Bool.true_and, Bool.and_true, Bool.false_and, Bool.and_false, Bool.not_not, reduceCtorEq, restE, wipeE, Option.getD_some, Option.getD_none, h, bad, two] <;> rfl)
theorem due_top {t b : D} (h : f__law_int [t] = .ok (.bl false)) : f__law_made_due [t, b] = .ok (two "top") := by
  unfold f__law_made_due m__law_made_due
  (simp (disch := first | omega | assumption | (simp only [List.length_cons, List.length_nil, List.length_map, List.length_append, List.length_set]; omega) | (simp only [List.getElem?_cons_zero, List.getElem?_cons_succ]; done)) only [E_c, E_var, E_own, E_bin, E_bin1, E_bin1x, E_bin2, E_bin2x, E_opt, E_un, E_un1, E_un1x, E_nil, E_cons, E_cons1, E_cons1x, E_cons2, E_cons2x, E_aF, E_tB, E_fB, E_fBx, E_tT, E_fT, E_fTx, E_selt, E_self, E_if, E_ifx, E_rOk, E_tAnd, E_tOr, E_tNot, E_fNotR, E_fNotRx, E_and, E_and1, E_and1x, E_or, E_or1, E_or1x, E_not, E_not1, E_not1x, E_eIf, E_selT, E_call, E_call1, E_call1x, E_to, E_tox, E_callN, E_callN1, E_toN, E_callH, E_ifOwn, E_callH1, E_callH2, E_toH, E_ixO, E_ixO1, E_ixO2, E_move, E_move1, E_ownA, E_ownA1, E_ownV, E_varV, E_seq, E_then, E_thenr, E_thenx, E_thenb, E_thenc, E_seqN, E_thenN, E_next, E_brk, E_ct, E_expr, E_expr1, E_expr1x, E_set, E_set1, E_set1x, E_ret, E_ret1, E_ret1x, E_retN, E_ifS, E_ifS1, E_ifS1x, E_asg, E_asg1, E_asg1x, E_asg2, E_nm, E_nilG, E_consG, E_obind, E_tupG2, E_tupG3, E_tupG4, E_par, E_par1, E_app, E_ifOwnS, E_app1, E_app1x, E_app20, E_app2, E_setIx, E_SI1, E_SI2, E_SI3, E_SI4, E_for, E_for1, E_for1x, E_items, E_items1, E_itL, E_itS, E_itT, E_rng1, E_rng11, E_rng2, E_rng21, E_lc, E_lc1, E_lc1x, E_lc2, E_runF, E_runr, E_runn, E_runx, E_runN, E_runNr, E_runH, E_runHr, E_runHn, E_runH2, E_raise1, E_R1, E_raise2, E_R2, E_R22, E_raise0, E_try, E_try1, E_tryr, E_tryx, E_try2, E_try2f, E_beh, E_behr, E_behb, E_behc, E_sl, E_sl1, E_sl2, E_sl3, E_sl3t, E_oN, E_oS, E_oS1, E_ch, E_ch1, E_ch2, E_ch3t, E_ch3f, E_ch4, E_enum, E_enum1, E_zip, E_zip1, E_zip1t, E_add, E_sub, E_neg, E_lt, E_le, E_gt, E_ge, E_eq, E_ne, E_mod, E_trI, E_trB, E_trN, E_trL, E_trT, E_lenL, E_lenT, E_lenS, E_listS, E_intB, E_intI, E_abs, E_listL, E_listT, E_tupleL, E_tupleT, E_dTup0, E_dTup1, E_dTup2, E_dTup3, E_dTup4, E_dTup5, E_dTup6, E_dTup7, E_dTup8, E_dTup9, E_dTup10, E_dTup11, E_dTup12, E_dLst0, E_dLst1, E_dLst2, E_dLst3, E_dLst4, E_dLst5, E_dLst6, E_dLst7, E_dLst8, E_dLst9, E_dLst10, E_dLst11, E_dLst12, E_gcd, E_isNnon, E_notN, E_isB, E_notB, E_ixL, E_ixT, E_at0, E_at1, E_at2, E_at3, E_at4, E_at5, E_isi_int_N, E_isi_int_B, E_isi_int_I, E_isi_int_S, E_isi_int_T, E_isi_int_L, E_isi_int_C, E_isi_bool_N, E_isi_bool_B, E_isi_bool_I, E_isi_bool_S, E_isi_bool_T, E_isi_bool_L, E_isi_bool_C, E_isi_str_N, E_isi_str_B, E_isi_str_I, E_isi_str_S, E_isi_str_T, E_isi_str_L, E_isi_str_C, E_isi_list_N, E_isi_list_B, E_isi_list_I, E_isi_list_S, E_isi_list_T, E_isi_list_L, E_isi_list_C, E_isi_tuple_N, E_isi_tuple_B, E_isi_tuple_I, E_isi_tuple_S, E_isi_tuple_T, E_isi_tuple_L, E_isi_tuple_C, E_isi2_N, E_isi2_B, E_isi2_I, E_isi2_S, E_isi2_T, E_isi2_L, E_isi2_C, E_isN_B, E_notN_B, E_isN_I, E_notN_I, E_isN_S, E_notN_S, E_isN_T, E_notN_T, E_isN_L, E_notN_L, E_isN_C, E_notN_C, E_isa1, E_isa2, E_lk1, E_xf, E_fam, E_mul, E_fdiv, E_ixN, E_decT, E_decF, List.getElem?_cons_zero, List.getElem?_cons_succ, List.set_cons_zero, List.set_cons_succ, List.length_cons, List.length_nil, List.length_map, List.append_nil, List.cons_append, List.nil_append, entry, List.map_cons, List.map_nil, List.replicate_succ, List.replicate_zero, Nat.reduceAdd, Nat.reduceSub, Nat.reduceLT, Nat.reduceLeDiff, Nat.reduceEqDiff, Nat.zero_add, ↓reduceIte, decide_true, decide_false, Bool.not_true, Bool.not_false, eq_self, ne_eq, not_true_eq_false, not_false_eq_true, Int.reduceEq, Int.reduceToNat, Int.toNat_natCast, Int.reduceNe, Int.reduceLT, Int.reduceLE, Int.reduceNeg, Nat.reduceLeDiff, if_true, if_false, decide_not, Bool.true_and, Bool.and_true, Bool.false_and, Bool.and_false, Bool.not_not, reduceCtorEq, restE, wipeE, Option.getD_some, Option.getD_none, h] <;> rfl)
theorem due_bot {b : D} {x : Int} (h : f__law_int [b] = .ok (.bl false)) : f__law_made_due [.int x, b] = .ok (two "bottom") := by
  have w := lint_int x
  unfold f__law_made_due m__law_made_due
  (simp (disch := first | omega | assumption | (simp only [List.length_cons, List.length_nil, List.length_map, List.length_append, List.length_set]; omega) | (simp only [List.getElem?_cons_zero, List.getElem?_cons_succ]; done)) only [E_c, E_var, E_own, E_bin, E_bin1, E_bin1x, E_bin2, E_bin2x, E_opt, E_un, E_un1, E_un1x, E_nil, E_cons, E_cons1, E_cons1x, E_cons2, E_cons2x, E_aF, E_tB, E_fB, E_fBx, E_tT, E_fT, E_fTx, E_selt, E_self, E_if, E_ifx, E_rOk, E_tAnd, E_tOr, E_tNot, E_fNotR, E_fNotRx, E_and, E_and1, E_and1x, E_or, E_or1, E_or1x, E_not, E_not1, E_not1x, E_eIf, E_selT, E_call, E_call1, E_call1x, E_to, E_tox, E_callN, E_callN1, E_toN, E_callH, E_ifOwn, E_callH1, E_callH2, E_toH, E_ixO, E_ixO1, E_ixO2, E_move, E_move1, E_ownA, E_ownA1, E_ownV, E_varV, E_seq, E_then, E_thenr, E_thenx, E_thenb, E_thenc, E_seqN, E_thenN, E_next, E_brk, E_ct, E_expr, E_expr1, E_expr1x, E_set, E_set1, E_set1x, E_ret, E_ret1, E_ret1x, E_retN, E_ifS, E_ifS1, E_ifS1x, E_asg, E_asg1, E_asg1x, E_asg2, E_nm, E_nilG, E_consG, E_obind, E_tupG2, E_tupG3, E_tupG4, E_par, E_par1, E_app, E_ifOwnS, E_app1, E_app1x, E_app20, E_app2, E_setIx, E_SI1, E_SI2, E_SI3, E_SI4, E_for, E_for1, E_for1x, E_items, E_items1, E_itL, E_itS, E_itT, E_rng1, E_rng11, E_rng2, E_rng21, E_lc, E_lc1, E_lc1x, E_lc2, E_runF, E_runr, E_runn, E_runx, E_runN, E_runNr, E_runH, E_runHr, E_runHn, E_runH2, E_raise1, E_R1, E_raise2, E_R2, E_R22, E_raise0, E_try, E_try1, E_tryr, E_tryx, E_try2, E_try2f, E_beh, E_behr, E_behb, E_behc, E_sl, E_sl1, E_sl2, E_sl3, E_sl3t, E_oN, E_oS, E_oS1, E_ch, E_ch1, E_ch2, E_ch3t, E_ch3f, E_ch4, E_enum, E_enum1, E_zip, E_zip1, E_zip1t, E_add, E_sub, E_neg, E_lt, E_le, E_gt, E_ge, E_eq, E_ne, E_mod, E_trI, E_trB, E_trN, E_trL, E_trT, E_lenL, E_lenT, E_lenS, E_listS, E_intB, E_intI, E_abs, E_listL, E_listT, E_tupleL, E_tupleT, E_dTup0, E_dTup1, E_dTup2, E_dTup3, E_dTup4, E_dTup5, E_dTup6, E_dTup7, E_dTup8, E_dTup9, E_dTup10, E_dTup11, E_dTup12, E_dLst0, E_dLst1, E_dLst2, E_dLst3, E_dLst4, E_dLst5, E_dLst6, E_dLst7, E_dLst8, E_dLst9, E_dLst10, E_dLst11, E_dLst12, E_gcd, E_isNnon, E_notN, E_isB, E_notB, E_ixL, E_ixT, E_at0, E_at1, E_at2, E_at3, E_at4, E_at5, E_isi_int_N, E_isi_int_B, E_isi_int_I, E_isi_int_S, E_isi_int_T, E_isi_int_L, E_isi_int_C, E_isi_bool_N, E_isi_bool_B, E_isi_bool_I, E_isi_bool_S, E_isi_bool_T, E_isi_bool_L, E_isi_bool_C, E_isi_str_N, E_isi_str_B, E_isi_str_I, E_isi_str_S, E_isi_str_T, E_isi_str_L, E_isi_str_C, E_isi_list_N, E_isi_list_B, E_isi_list_I, E_isi_list_S, E_isi_list_T, E_isi_list_L, E_isi_list_C, E_isi_tuple_N, E_isi_tuple_B, E_isi_tuple_I, E_isi_tuple_S, E_isi_tuple_T, E_isi_tuple_L, E_isi_tuple_C, E_isi2_N, E_isi2_B, E_isi2_I, E_isi2_S, E_isi2_T, E_isi2_L, E_isi2_C, E_isN_B, E_notN_B, E_isN_I, E_notN_I, E_isN_S, E_notN_S, E_isN_T, E_notN_T, E_isN_L, E_notN_L, E_isN_C, E_notN_C, E_isa1, E_isa2, E_lk1, E_xf, E_fam, E_mul, E_fdiv, E_ixN, E_decT, E_decF, List.getElem?_cons_zero, List.getElem?_cons_succ, List.set_cons_zero, List.set_cons_succ, List.length_cons, List.length_nil, List.length_map, List.append_nil, List.cons_append, List.nil_append, entry, List.map_cons, List.map_nil, List.replicate_succ, List.replicate_zero, Nat.reduceAdd, Nat.reduceSub, Nat.reduceLT, Nat.reduceLeDiff, Nat.reduceEqDiff, Nat.zero_add, ↓reduceIte, decide_true, decide_false, Bool.not_true, Bool.not_false, eq_self, ne_eq, not_true_eq_false, not_false_eq_true, Int.reduceEq, Int.reduceToNat, Int.toNat_natCast, Int.reduceNe, Int.reduceLT, Int.reduceLE, Int.reduceNeg, Nat.reduceLeDiff, if_true, if_false, decide_not, Bool.true_and, Bool.and_true, Bool.false_and, Bool.and_false, Bool.not_not, reduceCtorEq, restE, wipeE, Option.getD_some, Option.getD_none, w, h] <;> rfl)
theorem due_zero {x : Int} : f__law_made_due [.int x, .int 0] = .ok (two "bottom") := by
  have w := lint_int x
  have w0 := lint_int 0
  unfold f__law_made_due m__law_made_due
  (simp (disch := first | omega | assumption | (simp only [List.length_cons, List.length_nil, List.length_map, List.length_append, List.length_set]; omega) | (simp only [List.getElem?_cons_zero, List.getElem?_cons_succ]; done)) only [E_c, E_var, E_own, E_bin, E_bin1, E_bin1x, E_bin2, E_bin2x, E_opt, E_un, E_un1, E_un1x, E_nil, E_cons, E_cons1, E_cons1x, E_cons2, E_cons2x, E_aF, E_tB, E_fB, E_fBx, E_tT, E_fT, E_fTx, E_selt, E_self, E_if, E_ifx, E_rOk, E_tAnd, E_tOr, E_tNot, E_fNotR, E_fNotRx, E_and, E_and1, E_and1x, E_or, E_or1, E_or1x, E_not, E_not1, E_not1x, E_eIf, E_selT, E_call, E_call1, E_call1x, E_to, E_tox, E_callN, E_callN1, E_toN, E_callH, E_ifOwn, E_callH1, E_callH2, E_toH, E_ixO, E_ixO1, E_ixO2, E_move, E_move1, E_ownA, E_ownA1, E_ownV, E_varV, E_seq, E_then, E_thenr, E_thenx, E_thenb, E_thenc, E_seqN, E_thenN, E_next, E_brk, E_ct, E_expr, E_expr1, E_expr1x, E_set, E_set1, E_set1x, E_ret, E_ret1, E_ret1x, E_retN, E_ifS, E_ifS1, E_ifS1x, E_asg, E_asg1, E_asg1x, E_asg2, E_nm, E_nilG, E_consG, E_obind, E_tupG2, E_tupG3, E_tupG4, E_par, E_par1, E_app, E_ifOwnS, E_app1, E_app1x, E_app20, E_app2, E_setIx, E_SI1, E_SI2, E_SI3, E_SI4, E_for, E_for1, E_for1x, E_items, E_items1, E_itL, E_itS, E_itT, E_rng1, E_rng11, E_rng2, E_rng21, E_lc, E_lc1, E_lc1x, E_lc2, E_runF, E_runr, E_runn, E_runx, E_runN, E_runNr, E_runH, E_runHr, E_runHn, E_runH2, E_raise1, E_R1, E_raise2, E_R2, E_R22, E_raise0, E_try, E_try1, E_tryr, E_tryx, E_try2, E_try2f, E_beh, E_behr, E_behb, E_behc, E_sl, E_sl1, E_sl2, E_sl3, E_sl3t, E_oN, E_oS, E_oS1, E_ch, E_ch1, E_ch2, E_ch3t, E_ch3f, E_ch4, E_enum, E_enum1, E_zip, E_zip1, E_zip1t, E_add, E_sub, E_neg, E_lt, E_le, E_gt, E_ge, E_eq, E_ne, E_mod, E_trI, E_trB, E_trN, E_trL, E_trT, E_lenL, E_lenT, E_lenS, E_listS, E_intB, E_intI, E_abs, E_listL, E_listT, E_tupleL, E_tupleT, E_dTup0, E_dTup1, E_dTup2, E_dTup3, E_dTup4, E_dTup5, E_dTup6, E_dTup7, E_dTup8, E_dTup9, E_dTup10, E_dTup11, E_dTup12, E_dLst0, E_dLst1, E_dLst2, E_dLst3, E_dLst4, E_dLst5, E_dLst6, E_dLst7, E_dLst8, E_dLst9, E_dLst10, E_dLst11, E_dLst12, E_gcd, E_isNnon, E_notN, E_isB, E_notB, E_ixL, E_ixT, E_at0, E_at1, E_at2, E_at3, E_at4, E_at5, E_isi_int_N, E_isi_int_B, E_isi_int_I, E_isi_int_S, E_isi_int_T, E_isi_int_L, E_isi_int_C, E_isi_bool_N, E_isi_bool_B, E_isi_bool_I, E_isi_bool_S, E_isi_bool_T, E_isi_bool_L, E_isi_bool_C, E_isi_str_N, E_isi_str_B, E_isi_str_I, E_isi_str_S, E_isi_str_T, E_isi_str_L, E_isi_str_C, E_isi_list_N, E_isi_list_B, E_isi_list_I, E_isi_list_S, E_isi_list_T, E_isi_list_L, E_isi_list_C, E_isi_tuple_N, E_isi_tuple_B, E_isi_tuple_I, E_isi_tuple_S, E_isi_tuple_T, E_isi_tuple_L, E_isi_tuple_C, E_isi2_N, E_isi2_B, E_isi2_I, E_isi2_S, E_isi2_T, E_isi2_L, E_isi2_C, E_isN_B, E_notN_B, E_isN_I, E_notN_I, E_isN_S, E_notN_S, E_isN_T, E_notN_T, E_isN_L, E_notN_L, E_isN_C, E_notN_C, E_isa1, E_isa2, E_lk1, E_xf, E_fam, E_mul, E_fdiv, E_ixN, E_decT, E_decF, List.getElem?_cons_zero, List.getElem?_cons_succ, List.set_cons_zero, List.set_cons_succ, List.length_cons, List.length_nil, List.length_map, List.append_nil, List.cons_append, List.nil_append, entry, List.map_cons, List.map_nil, List.replicate_succ, List.replicate_zero, Nat.reduceAdd, Nat.reduceSub, Nat.reduceLT, Nat.reduceLeDiff, Nat.reduceEqDiff, Nat.zero_add, ↓reduceIte, decide_true, decide_false, Bool.not_true, Bool.not_false, eq_self, ne_eq, not_true_eq_false, not_false_eq_true, Int.reduceEq, Int.reduceToNat, Int.toNat_natCast, Int.reduceNe, Int.reduceLT, Int.reduceLE, Int.reduceNeg, Nat.reduceLeDiff, if_true, if_false, decide_not, Bool.true_and, Bool.and_true, Bool.false_and, Bool.and_false, Bool.not_not, reduceCtorEq, restE, wipeE, Option.getD_some, Option.getD_none, w, w0] <;> rfl)
theorem due_ok {x y : Int} (hy : y ≠ 0) (hb : Bd 140 y) : f__law_made_due [.int x, .int y] = .ok (Lw x y) := by
  have w := lint_int x
  have w0 := lint_int y
  have e := pl_ratio x y hy (hb.mono (by decide))
  unfold f__law_made_due m__law_made_due
  (simp (disch := first | omega | assumption | (simp only [List.length_cons, List.length_nil, List.length_map, List.length_append, List.length_set]; omega) | (simp only [List.getElem?_cons_zero, List.getElem?_cons_succ]; done)) only [E_c, E_var, E_own, E_bin, E_bin1, E_bin1x, E_bin2, E_bin2x, E_opt, E_un, E_un1, E_un1x, E_nil, E_cons, E_cons1, E_cons1x, E_cons2, E_cons2x, E_aF, E_tB, E_fB, E_fBx, E_tT, E_fT, E_fTx, E_selt, E_self, E_if, E_ifx, E_rOk, E_tAnd, E_tOr, E_tNot, E_fNotR, E_fNotRx, E_and, E_and1, E_and1x, E_or, E_or1, E_or1x, E_not, E_not1, E_not1x, E_eIf, E_selT, E_call, E_call1, E_call1x, E_to, E_tox, E_callN, E_callN1, E_toN, E_callH, E_ifOwn, E_callH1, E_callH2, E_toH, E_ixO, E_ixO1, E_ixO2, E_move, E_move1, E_ownA, E_ownA1, E_ownV, E_varV, E_seq, E_then, E_thenr, E_thenx, E_thenb, E_thenc, E_seqN, E_thenN, E_next, E_brk, E_ct, E_expr, E_expr1, E_expr1x, E_set, E_set1, E_set1x, E_ret, E_ret1, E_ret1x, E_retN, E_ifS, E_ifS1, E_ifS1x, E_asg, E_asg1, E_asg1x, E_asg2, E_nm, E_nilG, E_consG, E_obind, E_tupG2, E_tupG3, E_tupG4, E_par, E_par1, E_app, E_ifOwnS, E_app1, E_app1x, E_app20, E_app2, E_setIx, E_SI1, E_SI2, E_SI3, E_SI4, E_for, E_for1, E_for1x, E_items, E_items1, E_itL, E_itS, E_itT, E_rng1, E_rng11, E_rng2, E_rng21, E_lc, E_lc1, E_lc1x, E_lc2, E_runF, E_runr, E_runn, E_runx, E_runN, E_runNr, E_runH, E_runHr, E_runHn, E_runH2, E_raise1, E_R1, E_raise2, E_R2, E_R22, E_raise0, E_try, E_try1, E_tryr, E_tryx, E_try2, E_try2f, E_beh, E_behr, E_behb, E_behc, E_sl, E_sl1, E_sl2, E_sl3, E_sl3t, E_oN, E_oS, E_oS1, E_ch, E_ch1, E_ch2, E_ch3t, E_ch3f, E_ch4, E_enum, E_enum1, E_zip, E_zip1, E_zip1t, E_add, E_sub, E_neg, E_lt, E_le, E_gt, E_ge, E_eq, E_ne, E_mod, E_trI, E_trB, E_trN, E_trL, E_trT, E_lenL, E_lenT, E_lenS, E_listS, E_intB, E_intI, E_abs, E_listL, E_listT, E_tupleL, E_tupleT, E_dTup0, E_dTup1, E_dTup2, E_dTup3, E_dTup4, E_dTup5, E_dTup6, E_dTup7, E_dTup8, E_dTup9, E_dTup10, E_dTup11, E_dTup12, E_dLst0, E_dLst1, E_dLst2, E_dLst3, E_dLst4, E_dLst5, E_dLst6, E_dLst7, E_dLst8, E_dLst9, E_dLst10, E_dLst11, E_dLst12, E_gcd, E_isNnon, E_notN, E_isB, E_notB, E_ixL, E_ixT, E_at0, E_at1, E_at2, E_at3, E_at4, E_at5, E_isi_int_N, E_isi_int_B, E_isi_int_I, E_isi_int_S, E_isi_int_T, E_isi_int_L, E_isi_int_C, E_isi_bool_N, E_isi_bool_B, E_isi_bool_I, E_isi_bool_S, E_isi_bool_T, E_isi_bool_L, E_isi_bool_C, E_isi_str_N, E_isi_str_B, E_isi_str_I, E_isi_str_S, E_isi_str_T, E_isi_str_L, E_isi_str_C, E_isi_list_N, E_isi_list_B, E_isi_list_I, E_isi_list_S, E_isi_list_T, E_isi_list_L, E_isi_list_C, E_isi_tuple_N, E_isi_tuple_B, E_isi_tuple_I, E_isi_tuple_S, E_isi_tuple_T, E_isi_tuple_L, E_isi_tuple_C, E_isi2_N, E_isi2_B, E_isi2_I, E_isi2_S, E_isi2_T, E_isi2_L, E_isi2_C, E_isN_B, E_notN_B, E_isN_I, E_notN_I, E_isN_S, E_notN_S, E_isN_T, E_notN_T, E_isN_L, E_notN_L, E_isN_C, E_notN_C, E_isa1, E_isa2, E_lk1, E_xf, E_fam, E_mul, E_fdiv, E_ixN, E_decT, E_decF, List.getElem?_cons_zero, List.getElem?_cons_succ, List.set_cons_zero, List.set_cons_succ, List.length_cons, List.length_nil, List.length_map, List.append_nil, List.cons_append, List.nil_append, entry, List.map_cons, List.map_nil, List.replicate_succ, List.replicate_zero, Nat.reduceAdd, Nat.reduceSub, Nat.reduceLT, Nat.reduceLeDiff, Nat.reduceEqDiff, Nat.zero_add, ↓reduceIte, decide_true, decide_false, Bool.not_true, Bool.not_false, eq_self, ne_eq, not_true_eq_false, not_false_eq_true, Int.reduceEq, Int.reduceToNat, Int.toNat_natCast, Int.reduceNe, Int.reduceLT, Int.reduceLE, Int.reduceNeg, Nat.reduceLeDiff, if_true, if_false, decide_not, Bool.true_and, Bool.and_true, Bool.false_and, Bool.and_false, Bool.not_not, reduceCtorEq, restE, wipeE, Option.getD_some, Option.getD_none, w, w0, e] <;> rfl)
def IsV (v : D) : Prop := ∃ bl bt : Bool, dIsi "list" v = some (.bl bl) ∧ dIsi "tuple" v = some (.bl bt) ∧ dNe v v = some (.bl false) ∧ dEq v v = some (.bl true) ∧ (bt = true → f__law_same [v, v] = .ok (.bl true))
theorem eq_two (s : Str) (h : okD 20 (two s) = true) : dNe (two s) (two s) = some (.bl false) ∧ dEq (two s) (two s) = some (.bl true) := by
  have e : eqvD (two s) (two s) = true := by
    unfold eqvD
    simp [toPy, toPys, PyData.eqv, PyData.eqvAll]
  unfold dNe dEq
  rw [e, h]
  exact ⟨rfl, rfl⟩
theorem isV_two {s : Str} (h : okD 20 (two s) = true) : IsV (two s) := by
  have i1 : dIsi "list" (two s) = some (.bl true) := rfl
  have i2 : dIsi "tuple" (two s) = some (.bl false) := rfl
  exact ⟨true, false, i1, i2, (eq_two s h).1, (eq_two s h).2, fun z => by cases z⟩
theorem isV_lw (x y : Int) : IsV (Lw x y) := by
  have i1 : dIsi "list" (Lw x y) = some (.bl false) := rfl
  have i2 : dIsi "tuple" (Lw x y) = some (.bl true) := rfl
  refine ⟨false, true, i1, i2, ?_, ?_, fun _ => pl_same⟩
  · show dNe (R2 _ _) (R2 _ _) = _
    rw [dNe_tup2]; simp
  · show dEq (R2 _ _) (R2 _ _) = _
    rw [dEq_tup2]; simp
def IsT (d : D) : Prop := IsOdd d ∨ ∃ x, d = .int x ∧ Bd 140 x
theorem made_same {t b : D} (ht : IsT t) (hb : IsT b) : ∃ v, f__law_made [t, b, .bl false] = .ok v ∧ f__law_made_due [t, b] = .ok v ∧ IsV v := by
  rcases ht with ht | ⟨x, rfl, hx⟩
  · exact ⟨_, made_exc (mk_top (isw_odd ht)), due_top (lint_odd ht), isV_two (by decide +kernel)⟩
  · rcases hb with hb | ⟨y, rfl, hy⟩
    · exact ⟨_, made_exc (mk_bot (isw_odd hb)), due_bot (lint_odd hb), isV_two (by decide +kernel)⟩
    · by_cases y0 : y = 0
      · subst y0
        exact ⟨_, made_exc mk_zero, due_zero, isV_two (by decide +kernel)⟩
      · exact ⟨_, made_ok (mk_ok y0 hy), due_ok y0 hy, isV_lw x y⟩
theorem made_sameS {t : D} (ht : IsT t) : ∃ v, f__law_made [t, .int 1, .bl true] = .ok v ∧ f__law_made_due [t, .int 1] = .ok v ∧ IsV v := by
  have h1 : Bd 140 1 := bd_of (N := 2) (by decide) (by decide) (by decide)
  rcases ht with ht | ⟨x, rfl, hx⟩
  · exact ⟨_, made_excS (mk_top (isw_odd ht)), due_top (lint_odd ht), isV_two (by decide +kernel)⟩
  · exact ⟨_, made_okS (mk_ok (by decide) h1), due_ok (by decide) h1, isV_lw x 1⟩
theorem dNe_bl (b : Bool) : dNe (.bl b) (.bl b) = some (.bl false) := by
  have e : eqvD (.bl b) (.bl b) = true := by
    unfold eqvD
    simp [toPy, PyData.eqv]
  unfold dNe
  rw [e]
  rfl
theorem dEq_bl (b : Bool) : dEq (.bl b) (.bl b) = some (.bl true) := by
  have e : eqvD (.bl b) (.bl b) = true := by
    unfold eqvD
    simp [toPy, PyData.eqv]
  unfold dEq
  rw [e]
  rfl
theorem pl_thing {l1 : List D} (i : Int) (g1 : Good l1) : ∃ t l2, ((i = 0 ∧ f__law_odd l1 [] = .ok (t, l2)) ∨ (i ≠ 0 ∧ f__law_sized l1 [] = .ok (t, l2))) ∧ IsT t ∧ Good l2 := by
  by_cases h : i = 0
  · obtain ⟨t, l2, e, o, g⟩ := pl_odd g1
    exact ⟨t, l2, .inl ⟨h, e⟩, .inl o, g⟩
  · obtain ⟨x, l2, e, b, g⟩ := pl_sized g1
    exact ⟨_, l2, .inr ⟨h, e⟩, .inr ⟨x, rfl, b⟩, g⟩
theorem pl_makings {l : List D} (g : Good l) : ∃ l', f__law_makings l [] = .ok (.bl true, l') ∧ Good l' := by
  obtain ⟨i, l1, e1, i0, i1, g1⟩ := pl_take g (many := 4) (by decide) (bd_of (N := 7) (by omega) (by omega) (by decide))
  obtain ⟨t, l2, s2, ht, g2⟩ := pl_thing i g1
  obtain ⟨j, l3, e3, j0, j1, g3⟩ := pl_take g2 (many := 4) (by decide) (bd_of (N := 7) (by omega) (by omega) (by decide))
  obtain ⟨b, l4, s4, hb, g4⟩ := pl_thing j g3
  obtain ⟨v, v1, v2, bl, bt, q1, q2, q3, q4, q5⟩ := made_same ht hb
  obtain ⟨u, u1, u2, cl, ct, p1, p2, p3, p4, p5⟩ := made_sameS ht
  have n1 := dNe_bl bl
  have n2 := dEq_bl cl
  refine ⟨l4, ?_, g4⟩
  unfold f__law_makings
  rcases s2 with ⟨hi, e2⟩ | ⟨hi, e2⟩ <;> rcases s4 with ⟨hj, e4⟩ | ⟨hj, e4⟩ <;> cases bt
  all_goals first | (have q6 := q5 rfl; unfold m__law_makings; (simp (disch := first | omega | assumption | (simp only [List.length_cons, List.length_nil, List.length_map, List.length_append, List.length_set]; omega) | (simp only [List.getElem?_cons_zero, List.getElem?_cons_succ]; done)) only [E_c, E_var, E_own, E_bin, E_bin1, E_bin1x, E_bin2, E_bin2x, E_opt, E_un, E_un1, E_un1x, E_nil, E_cons, E_cons1, E_cons1x, E_cons2, E_cons2x, E_aF, E_tB, E_fB, E_fBx, E_tT, E_fT, E_fTx, E_selt, E_self, E_if, E_ifx, E_rOk, E_tAnd, E_tOr, E_tNot, E_fNotR, E_fNotRx, E_and, E_and1, E_and1x, E_or, E_or1, E_or1x, E_not, E_not1, E_not1x, E_eIf, E_selT, E_call, E_call1, E_call1x, E_to, E_tox, E_callN, E_callN1, E_toN, E_callH, E_ifOwn, E_callH1, E_callH2, E_toH, E_ixO, E_ixO1, E_ixO2, E_move, E_move1, E_ownA, E_ownA1, E_ownV, E_varV, E_seq, E_then, E_thenr, E_thenx, E_thenb, E_thenc, E_seqN, E_thenN, E_next, E_brk, E_ct, E_expr, E_expr1, E_expr1x, E_set, E_set1, E_set1x, E_ret, E_ret1, E_ret1x, E_retN, E_ifS, E_ifS1, E_ifS1x, E_asg, E_asg1, E_asg1x, E_asg2, E_nm, E_nilG, E_consG, E_obind, E_tupG2, E_tupG3, E_tupG4, E_par, E_par1, E_app, E_ifOwnS, E_app1, E_app1x, E_app20, E_app2, E_setIx, E_SI1, E_SI2, E_SI3, E_SI4, E_for, E_for1, E_for1x, E_items, E_items1, E_itL, E_itS, E_itT, E_rng1, E_rng11, E_rng2, E_rng21, E_lc, E_lc1, E_lc1x, E_lc2, E_runF, E_runr, E_runn, E_runx, E_runN, E_runNr, E_runH, E_runHr, E_runHn, E_runH2, E_raise1, E_R1, E_raise2, E_R2, E_R22, E_raise0, E_try, E_try1, E_tryr, E_tryx, E_try2, E_try2f, E_beh, E_behr, E_behb, E_behc, E_sl, E_sl1, E_sl2, E_sl3, E_sl3t, E_oN, E_oS, E_oS1, E_ch, E_ch1, E_ch2, E_ch3t, E_ch3f, E_ch4, E_enum, E_enum1, E_zip, E_zip1, E_zip1t, E_add, E_sub, E_neg, E_lt, E_le, E_gt, E_ge, E_eq, E_ne, E_mod, E_trI, E_trB, E_trN, E_trL, E_trT, E_lenL, E_lenT, E_lenS, E_listS, E_intB, E_intI, E_abs, E_listL, E_listT, E_tupleL, E_tupleT, E_dTup0, E_dTup1, E_dTup2, E_dTup3, E_dTup4, E_dTup5, E_dTup6, E_dTup7, E_dTup8, E_dTup9, E_dTup10, E_dTup11, E_dTup12, E_dLst0, E_dLst1, E_dLst2, E_dLst3, E_dLst4, E_dLst5, E_dLst6, E_dLst7, E_dLst8, E_dLst9, E_dLst10, E_dLst11, E_dLst12, E_gcd, E_isNnon, E_notN, E_isB, E_notB, E_ixL, E_ixT, E_at0, E_at1, E_at2, E_at3, E_at4, E_at5, E_isi_int_N, E_isi_int_B, E_isi_int_I, E_isi_int_S, E_isi_int_T, E_isi_int_L, E_isi_int_C, E_isi_bool_N, E_isi_bool_B, E_isi_bool_I, E_isi_bool_S, E_isi_bool_T, E_isi_bool_L, E_isi_bool_C, E_isi_str_N, E_isi_str_B, E_isi_str_I, E_isi_str_S, E_isi_str_T, E_isi_str_L, E_isi_str_C, E_isi_list_N, E_isi_list_B, E_isi_list_I, E_isi_list_S, E_isi_list_T, E_isi_list_L, E_isi_list_C, E_isi_tuple_N, E_isi_tuple_B, E_isi_tuple_I, E_isi_tuple_S, E_isi_tuple_T, E_isi_tuple_L, E_isi_tuple_C, E_isi2_N, E_isi2_B, E_isi2_I, E_isi2_S, E_isi2_T, E_isi2_L, E_isi2_C, E_isN_B, E_notN_B, E_isN_I, E_notN_I, E_isN_S, E_notN_S, E_isN_T, E_notN_T, E_isN_L, E_notN_L, E_isN_C, E_notN_C, E_isa1, E_isa2, E_lk1, E_xf, E_fam, E_mul, E_fdiv, E_ixN, E_decT, E_decF, List.getElem?_cons_zero, List.getElem?_cons_succ, List.set_cons_zero, List.set_cons_succ, List.length_cons, List.length_nil, List.length_map, List.append_nil, List.cons_append, List.nil_append, entry, List.map_cons, List.map_nil, List.replicate_succ, List.replicate_zero, Nat.reduceAdd, Nat.reduceSub, Nat.reduceLT, Nat.reduceLeDiff, Nat.reduceEqDiff, Nat.zero_add, ↓reduceIte, decide_true, decide_false, Bool.not_true, Bool.not_false, eq_self, ne_eq, not_true_eq_false, not_false_eq_true, Int.reduceEq, Int.reduceToNat, Int.toNat_natCast, Int.reduceNe, Int.reduceLT, Int.reduceLE, Int.reduceNeg, Nat.reduceLeDiff, if_true, if_false, decide_not, Bool.true_and, Bool.and_true, Bool.false_and, Bool.and_false, Bool.not_not, reduceCtorEq, restE, wipeE, Option.getD_some, Option.getD_none, e1, e2, e3, e4, v1, v2, u1, u2, q1, q2, q3, q6, p1, p4, n1, n2] <;> rfl)) | (unfold m__law_makings; (simp (disch := first | omega | assumption | (simp only [List.length_cons, List.length_nil, List.length_map, List.length_append, List.length_set]; omega) | (simp only [List.getElem?_cons_zero, List.getElem?_cons_succ]; done)) only [E_c, E_var, E_own, E_bin, E_bin1, E_bin1x, E_bin2, E_bin2x, E_opt, E_un, E_un1, E_un1x, E_nil, E_cons, E_cons1, E_cons1x, E_cons2, E_cons2x, E_aF, E_tB, E_fB, E_fBx, E_tT, E_fT, E_fTx, E_selt, E_self, E_if, E_ifx, E_rOk, E_tAnd, E_tOr, E_tNot, E_fNotR, E_fNotRx, E_and, E_and1, E_and1x, E_or, E_or1, E_or1x, E_not, E_not1, E_not1x, E_eIf, E_selT, E_call, E_call1, E_call1x, E_to, E_tox, E_callN, E_callN1, E_toN, E_callH, E_ifOwn, E_callH1, E_callH2, E_toH, E_ixO, E_ixO1, E_ixO2, E_move, E_move1, E_ownA, E_ownA1, E_ownV, E_varV, E_seq, E_then, E_thenr, E_thenx, E_thenb, E_thenc, E_seqN, E_thenN, E_next, E_brk, E_ct, E_expr, E_expr1, E_expr1x, E_set, E_set1, E_set1x, E_ret, E_ret1, E_ret1x, E_retN, E_ifS, E_ifS1, E_ifS1x, E_asg, E_asg1, E_asg1x, E_asg2, E_nm, E_nilG, E_consG, E_obind, E_tupG2, E_tupG3, E_tupG4, E_par, E_par1, E_app, E_ifOwnS, E_app1, E_app1x, E_app20, E_app2, E_setIx, E_SI1, E_SI2, E_SI3, E_SI4, E_for, E_for1, E_for1x, E_items, E_items1, E_itL, E_itS, E_itT, E_rng1, E_rng11, E_rng2, E_rng21, E_lc, E_lc1, E_lc1x, E_lc2, E_runF, E_runr, E_runn, E_runx, E_runN, E_runNr, E_runH, E_runHr, E_runHn, E_runH2, E_raise1, E_R1, E_raise2, E_R2, E_R22, E_raise0, E_try, E_try1, E_tryr, E_tryx, E_try2, E_try2f, E_beh, E_behr, E_behb, E_behc, E_sl, E_sl1, E_sl2, E_sl3, E_sl3t, E_oN, E_oS, E_oS1, E_ch, E_ch1, E_ch2, E_ch3t, E_ch3f, E_ch4, E_enum, E_enum1, E_zip, E_zip1, E_zip1t, E_add, E_sub, E_neg, E_lt, E_le, E_gt, E_ge, E_eq, E_ne, E_mod, E_trI, E_trB, E_trN, E_trL, E_trT, E_lenL, E_lenT, E_lenS, E_listS, E_intB, E_intI, E_abs, E_listL, E_listT, E_tupleL, E_tupleT, E_dTup0, E_dTup1, E_dTup2, E_dTup3, E_dTup4, E_dTup5, E_dTup6, E_dTup7, E_dTup8, E_dTup9, E_dTup10, E_dTup11, E_dTup12, E_dLst0, E_dLst1, E_dLst2, E_dLst3, E_dLst4, E_dLst5, E_dLst6, E_dLst7, E_dLst8, E_dLst9, E_dLst10, E_dLst11, E_dLst12, E_gcd, E_isNnon, E_notN, E_isB, E_notB, E_ixL, E_ixT, E_at0, E_at1, E_at2, E_at3, E_at4, E_at5, E_isi_int_N, E_isi_int_B, E_isi_int_I, E_isi_int_S, E_isi_int_T, E_isi_int_L, E_isi_int_C, E_isi_bool_N, E_isi_bool_B, E_isi_bool_I, E_isi_bool_S, E_isi_bool_T, E_isi_bool_L, E_isi_bool_C, E_isi_str_N, E_isi_str_B, E_isi_str_I, E_isi_str_S, E_isi_str_T, E_isi_str_L, E_isi_str_C, E_isi_list_N, E_isi_list_B, E_isi_list_I, E_isi_list_S, E_isi_list_T, E_isi_list_L, E_isi_list_C, E_isi_tuple_N, E_isi_tuple_B, E_isi_tuple_I, E_isi_tuple_S, E_isi_tuple_T, E_isi_tuple_L, E_isi_tuple_C, E_isi2_N, E_isi2_B, E_isi2_I, E_isi2_S, E_isi2_T, E_isi2_L, E_isi2_C, E_isN_B, E_notN_B, E_isN_I, E_notN_I, E_isN_S, E_notN_S, E_isN_T, E_notN_T, E_isN_L, E_notN_L, E_isN_C, E_notN_C, E_isa1, E_isa2, E_lk1, E_xf, E_fam, E_mul, E_fdiv, E_ixN, E_decT, E_decF, List.getElem?_cons_zero, List.getElem?_cons_succ, List.set_cons_zero, List.set_cons_succ, List.length_cons, List.length_nil, List.length_map, List.append_nil, List.cons_append, List.nil_append, entry, List.map_cons, List.map_nil, List.replicate_succ, List.replicate_zero, Nat.reduceAdd, Nat.reduceSub, Nat.reduceLT, Nat.reduceLeDiff, Nat.reduceEqDiff, Nat.zero_add, ↓reduceIte, decide_true, decide_false, Bool.not_true, Bool.not_false, eq_self, ne_eq, not_true_eq_false, not_false_eq_true, Int.reduceEq, Int.reduceToNat, Int.toNat_natCast, Int.reduceNe, Int.reduceLT, Int.reduceLE, Int.reduceNeg, Nat.reduceLeDiff, if_true, if_false, decide_not, Bool.true_and, Bool.and_true, Bool.false_and, Bool.and_false, Bool.not_not, reduceCtorEq, restE, wipeE, Option.getD_some, Option.getD_none, e1, e2, e3, e4, v1, v2, u1, u2, q1, q2, q3, p1, p4, n1, n2] <;> rfl))
end Law

set_option Elab.async false
set_option linter.all false
set_option maxRecDepth 100000
set_option maxHeartbeats 4000000
noncomputable section
namespace Law
open PySem L2 Py
def IsTh (d : D) : Prop := (∃ x y, d = .lst [.int x, .int y]) ∨ (∃ x y, d = R2 x y ∧ Bd 200 x ∧ Bd 200 y) ∨ (∃ x y z, d = .tup [.int x, .int y, .int z]) ∨ (∃ x, d = .tup [.int x]) ∨ (∃ o y, IsOdd o ∧ d = .tup [o, .int y]) ∨ (∃ x o, IsOdd o ∧ d = .tup [.int x, o]) ∨ IsOdd d
theorem pl_spoiled {l : List D} {a b : Int} (g : Good l) (ha : Bd 140 a) (hb : Bd 140 b) : ∃ d l', f__law_spoiled l [R2 a b] = .ok (d, l') ∧ IsTh d ∧ Good l' := by
  obtain ⟨i, l1, e1, i0, i1, g1⟩ := pl_take g (many := 10) (by decide) (bd_of (N := 11) (by omega) (by omega) (by decide))
  obtain ⟨o, l2, e2, ho, g2⟩ := pl_odd g1
  have h2 : Bd 2 2 := bd_of (N := 3) (by decide) (by decide) (by decide)
  have h1 : Bd 2 1 := bd_of (N := 3) (by decide) (by decide) (by decide)
  have ma := dMul_of h2 ha (by decide)
  have mb := dMul_of h2 hb (by decide)
  have hab : Bd 140 (if a < 0 then -a else a) := by split; exact ha.neg; exact ha
  have ea : dAbs [.int a] = some (.int (if a < 0 then -a else a)) := rfl
  have hi : i = 0 ∨ i = 1 ∨ i = 2 ∨ i = 3 ∨ i = 4 ∨ i = 5 ∨ i = 6 ∨ i = 7 ∨ i = 8 ∨ i = 9 := by omega
  rcases hi with rfl | rfl | rfl | rfl | rfl | rfl | rfl | rfl | rfl | rfl
  · refine ⟨_, l1, ?_, .inl ⟨a, b, rfl⟩, g1⟩
    unfold f__law_spoiled m__law_spoiled
    (simp (disch := first | omega | assumption | (simp only [List.length_cons, List.length_nil, List.length_map, List.length_append, List.length_set]; omega)) only [E_c, E_var, E_own, E_bin, E_bin1, E_bin1x, E_bin2, E_bin2x, E_opt, E_un, E_un1, E_un1x, E_nil, E_cons, E_cons1, E_cons1x, E_cons2, E_cons2x, E_aF, E_tB, E_fB, E_fBx, E_tT, E_fT, E_fTx, E_selt, E_self, E_if, E_ifx, E_rOk, E_tAnd, E_tOr, E_tNot, E_fNotR, E_fNotRx, E_and, E_and1, E_and1x, E_or, E_or1, E_or1x, E_not, E_not1, E_not1x, E_eIf, E_selT, E_call, E_call1, E_call1x, E_to, E_tox, E_callN, E_callN1, E_toN, E_callH, E_ifOwn, E_callH1, E_callH2, E_toH, E_ixO, E_ixO1, E_ixO2, E_move, E_move1, E_ownA, E_ownA1, E_ownV, E_varV, E_seq, E_then, E_thenr, E_thenx, E_thenb, E_thenc, E_seqN, E_thenN, E_next, E_brk, E_ct, E_expr, E_expr1, E_expr1x, E_set, E_set1, E_set1x, E_ret, E_ret1, E_ret1x, E_retN, E_ifS, E_ifS1, E_ifS1x, E_asg, E_asg1, E_asg1x, E_asg2, E_nm, E_nilG, E_consG, E_obind, E_tupG2, E_tupG3, E_tupG4, E_par, E_par1, E_app, E_ifOwnS, E_app1, E_app1x, E_app20, E_app2, E_setIx, E_SI1, E_SI2, E_SI3, E_SI4, E_for, E_for1, E_for1x, E_items, E_items1, E_itL, E_itS, E_itT, E_rng1, E_rng11, E_rng2, E_rng21, E_lc, E_lc1, E_lc1x, E_lc2, E_runF, E_runr, E_runn, E_runx, E_runN, E_runNr, E_runH, E_runHr, E_runHn, E_runH2, E_raise1, E_R1, E_raise2, E_R2, E_R22, E_raise0, E_try, E_try1, E_tryr, E_tryx, E_try2, E_try2f, E_beh, E_behr, E_behb, E_behc, E_sl, E_sl1, E_sl2, E_sl3, E_sl3t, E_oN, E_oS, E_oS1, E_ch, E_ch1, E_ch2, E_ch3t, E_ch3f, E_ch4, E_enum, E_enum1, E_zip, E_zip1, E_zip1t, E_add, E_sub, E_neg, E_lt, E_le, E_gt, E_ge, E_eq, E_ne, E_mod, E_trI, E_trB, E_trN, E_trL, E_trT, E_lenL, E_lenT, E_lenS, E_listS, E_intB, E_intI, E_abs, E_listL, E_listT, E_tupleL, E_tupleT, E_dTup0, E_dTup1, E_dTup2, E_dTup3, E_dTup4, E_dTup5, E_dTup6, E_dTup7, E_dTup8, E_dTup9, E_dTup10, E_dTup11, E_dTup12, E_dLst0, E_dLst1, E_dLst2, E_dLst3, E_dLst4, E_dLst5, E_dLst6, E_dLst7, E_dLst8, E_dLst9, E_dLst10, E_dLst11, E_dLst12, E_gcd, E_isNnon, E_notN, E_isB, E_notB, E_ixL, E_ixT, E_at0, E_at1, E_at2, E_at3, E_at4, E_at5, E_isi_int_N, E_isi_int_B, E_isi_int_I, E_isi_int_S, E_isi_int_T, E_isi_int_L, E_isi_int_C, E_isi_bool_N, E_isi_bool_B, E_isi_bool_I, E_isi_bool_S, E_isi_bool_T, E_isi_bool_L, E_isi_bool_C, E_isi_str_N, E_isi_str_B, E_isi_str_I, E_isi_str_S, E_isi_str_T, E_isi_str_L, E_isi_str_C, E_isi_list_N, E_isi_list_B, E_isi_list_I, E_isi_list_S, E_isi_list_T, E_isi_list_L, E_isi_list_C, E_isi_tuple_N, E_isi_tuple_B, E_isi_tuple_I, E_isi_tuple_S, E_isi_tuple_T, E_isi_tuple_L, E_isi_tuple_C, E_isi2_N, E_isi2_B, E_isi2_I, E_isi2_S, E_isi2_T, E_isi2_L, E_isi2_C, E_isN_B, E_notN_B, E_isN_I, E_notN_I, E_isN_S, E_notN_S, E_isN_T, E_notN_T, E_isN_L, E_notN_L, E_isN_C, E_notN_C, E_isa1, E_isa2, E_lk1, E_xf, E_fam, E_mul, E_fdiv, E_ixN, E_decT, E_decF, List.getElem?_cons_zero, List.getElem?_cons_succ, List.set_cons_zero, List.set_cons_succ, List.length_cons, List.length_nil, List.length_map, List.append_nil, List.cons_append, List.nil_append, entry, List.map_cons, List.map_nil, List.replicate_succ, List.replicate_zero, Nat.reduceAdd, Nat.reduceSub, Nat.reduceLT, Nat.reduceLeDiff, Nat.reduceEqDiff, Nat.zero_add, ↓reduceIte, decide_true, decide_false, Bool.not_true, Bool.not_false, eq_self, ne_eq, not_true_eq_false, not_false_eq_true, Int.reduceEq, Int.reduceToNat, Int.toNat_natCast, Int.reduceNe, Int.reduceLT, Int.reduceLE, Int.reduceNeg, Nat.reduceLeDiff, if_true, if_false, decide_not, Bool.true_and, Bool.and_true, Bool.false_and, Bool.and_false, Bool.not_not, reduceCtorEq, e1] <;> rfl)
  · refine ⟨_, l1, ?_, .inr (.inl ⟨2 * a, 2 * b, rfl, (h2.mul ha).mono (by decide), (h2.mul hb).mono (by decide)⟩), g1⟩
    unfold f__law_spoiled m__law_spoiled
    (simp (disch := first | omega | assumption | (simp only [List.length_cons, List.length_nil, List.length_map, List.length_append, List.length_set]; omega)) only [E_c, E_var, E_own, E_bin, E_bin1, E_bin1x, E_bin2, E_bin2x, E_opt, E_un, E_un1, E_un1x, E_nil, E_cons, E_cons1, E_cons1x, E_cons2, E_cons2x, E_aF, E_tB, E_fB, E_fBx, E_tT, E_fT, E_fTx, E_selt, E_self, E_if, E_ifx, E_rOk, E_tAnd, E_tOr, E_tNot, E_fNotR, E_fNotRx, E_and, E_and1, E_and1x, E_or, E_or1, E_or1x, E_not, E_not1, E_not1x, E_eIf, E_selT, E_call, E_call1, E_call1x, E_to, E_tox, E_callN, E_callN1, E_toN, E_callH, E_ifOwn, E_callH1, E_callH2, E_toH, E_ixO, E_ixO1, E_ixO2, E_move, E_move1, E_ownA, E_ownA1, E_ownV, E_varV, E_seq, E_then, E_thenr, E_thenx, E_thenb, E_thenc, E_seqN, E_thenN, E_next, E_brk, E_ct, E_expr, E_expr1, E_expr1x, E_set, E_set1, E_set1x, E_ret, E_ret1, E_ret1x, E_retN, E_ifS, E_ifS1, E_ifS1x, E_asg, E_asg1, E_asg1x, E_asg2, E_nm, E_nilG, E_consG, E_obind, E_tupG2, E_tupG3, E_tupG4, E_par, E_par1, E_app, E_ifOwnS, E_app1, E_app1x, E_app20, E_app2, E_setIx, E_SI1, E_SI2, E_SI3, E_SI4, E_for, E_for1, E_for1x, E_items, E_items1, E_itL, E_itS, E_itT, E_rng1, E_rng11, E_rng2, E_rng21, E_lc, E_lc1, E_lc1x, E_lc2, E_runF, E_runr, E_runn, E_runx, E_runN, E_runNr, E_runH, E_runHr, E_runHn, E_runH2, E_raise1, E_R1, E_raise2, E_R2, E_R22, E_raise0, E_try, E_try1, E_tryr, E_tryx, E_try2, E_try2f, E_beh, E_behr, E_behb, E_behc, E_sl, E_sl1, E_sl2, E_sl3, E_sl3t, E_oN, E_oS, E_oS1, E_ch, E_ch1, E_ch2, E_ch3t, E_ch3f, E_ch4, E_enum, E_enum1, E_zip, E_zip1, E_zip1t, E_add, E_sub, E_neg, E_lt, E_le, E_gt, E_ge, E_eq, E_ne, E_mod, E_trI, E_trB, E_trN, E_trL, E_trT, E_lenL, E_lenT, E_lenS, E_listS, E_intB, E_intI, E_abs, E_listL, E_listT, E_tupleL, E_tupleT, E_dTup0, E_dTup1, E_dTup2, E_dTup3, E_dTup4, E_dTup5, E_dTup6, E_dTup7, E_dTup8, E_dTup9, E_dTup10, E_dTup11, E_dTup12, E_dLst0, E_dLst1, E_dLst2, E_dLst3, E_dLst4, E_dLst5, E_dLst6, E_dLst7, E_dLst8, E_dLst9, E_dLst10, E_dLst11, E_dLst12, E_gcd, E_isNnon, E_notN, E_isB, E_notB, E_ixL, E_ixT, E_at0, E_at1, E_at2, E_at3, E_at4, E_at5, E_isi_int_N, E_isi_int_B, E_isi_int_I, E_isi_int_S, E_isi_int_T, E_isi_int_L, E_isi_int_C, E_isi_bool_N, E_isi_bool_B, E_isi_bool_I, E_isi_bool_S, E_isi_bool_T, E_isi_bool_L, E_isi_bool_C, E_isi_str_N, E_isi_str_B, E_isi_str_I, E_isi_str_S, E_isi_str_T, E_isi_str_L, E_isi_str_C, E_isi_list_N, E_isi_list_B, E_isi_list_I, E_isi_list_S, E_isi_list_T, E_isi_list_L, E_isi_list_C, E_isi_tuple_N, E_isi_tuple_B, E_isi_tuple_I, E_isi_tuple_S, E_isi_tuple_T, E_isi_tuple_L, E_isi_tuple_C, E_isi2_N, E_isi2_B, E_isi2_I, E_isi2_S, E_isi2_T, E_isi2_L, E_isi2_C, E_isN_B, E_notN_B, E_isN_I, E_notN_I, E_isN_S, E_notN_S, E_isN_T, E_notN_T, E_isN_L, E_notN_L, E_isN_C, E_notN_C, E_isa1, E_isa2, E_lk1, E_xf, E_fam, E_mul, E_fdiv, E_ixN, E_decT, E_decF, List.getElem?_cons_zero, List.getElem?_cons_succ, List.set_cons_zero, List.set_cons_succ, List.length_cons, List.length_nil, List.length_map, List.append_nil, List.cons_append, List.nil_append, entry, List.map_cons, List.map_nil, List.replicate_succ, List.replicate_zero, Nat.reduceAdd, Nat.reduceSub, Nat.reduceLT, Nat.reduceLeDiff, Nat.reduceEqDiff, Nat.zero_add, ↓reduceIte, decide_true, decide_false, Bool.not_true, Bool.not_false, eq_self, ne_eq, not_true_eq_false, not_false_eq_true, Int.reduceEq, Int.reduceToNat, Int.toNat_natCast, Int.reduceNe, Int.reduceLT, Int.reduceLE, Int.reduceNeg, Nat.reduceLeDiff, if_true, if_false, decide_not, Bool.true_and, Bool.and_true, Bool.false_and, Bool.and_false, Bool.not_not, reduceCtorEq, e1, ma, mb] <;> rfl)
  · refine ⟨_, l1, ?_, .inr (.inl ⟨a, -b, rfl, ha.mono (by decide), hb.neg.mono (by decide)⟩), g1⟩
    unfold f__law_spoiled m__law_spoiled
    (simp (disch := first | omega | assumption | (simp only [List.length_cons, List.length_nil, List.length_map, List.length_append, List.length_set]; omega)) only [E_c, E_var, E_own, E_bin, E_bin1, E_bin1x, E_bin2, E_bin2x, E_opt, E_un, E_un1, E_un1x, E_nil, E_cons, E_cons1, E_cons1x, E_cons2, E_cons2x, E_aF, E_tB, E_fB, E_fBx, E_tT, E_fT, E_fTx, E_selt, E_self, E_if, E_ifx, E_rOk, E_tAnd, E_tOr, E_tNot, E_fNotR, E_fNotRx, E_and, E_and1, E_and1x, E_or, E_or1, E_or1x, E_not, E_not1, E_not1x, E_eIf, E_selT, E_call, E_call1, E_call1x, E_to, E_tox, E_callN, E_callN1, E_toN, E_callH, E_ifOwn, E_callH1, E_callH2, E_toH, E_ixO, E_ixO1, E_ixO2, E_move, E_move1, E_ownA, E_ownA1, E_ownV, E_varV, E_seq, E_then, E_thenr, E_thenx, E_thenb, E_thenc, E_seqN, E_thenN, E_next, E_brk, E_ct, E_expr, E_expr1, E_expr1x, E_set, E_set1, E_set1x, E_ret, E_ret1, E_ret1x, E_retN, E_ifS, E_ifS1, E_ifS1x, E_asg, E_asg1, E_asg1x, E_asg2, E_nm, E_nilG, E_consG, E_obind, E_tupG2, E_tupG3, E_tupG4, E_par, E_par1, E_app, E_ifOwnS, E_app1, E_app1x, E_app20, E_app2, E_setIx, E_SI1, E_SI2, E_SI3, E_SI4, E_for, E_for1, E_for1x, E_items, E_items1, E_itL, E_itS, E_itT, E_rng1, E_rng11, E_rng2, E_rng21, E_lc, E_lc1, E_lc1x, E_lc2, E_runF, E_runr, E_runn, E_runx, E_runN, E_runNr, E_runH, E_runHr, E_runHn, E_runH2, E_raise1, E_R1, E_raise2, E_R2, E_R22, E_raise0, E_try, E_try1, E_tryr, E_tryx, E_try2, E_try2f, E_beh, E_behr, E_behb, E_behc, E_sl, E_sl1, E_sl2, E_sl3, E_sl3t, E_oN, E_oS, E_oS1, E_ch, E_ch1, E_ch2, E_ch3t, E_ch3f, E_ch4, E_enum, E_enum1, E_zip, E_zip1, E_zip1t, E_add, E_sub, E_neg, E_lt, E_le, E_gt, E_ge, E_eq, E_ne, E_mod, E_trI, E_trB, E_trN, E_trL, E_trT, E_lenL, E_lenT, E_lenS, E_listS, E_intB, E_intI, E_abs, E_listL, E_listT, E_tupleL, E_tupleT, E_dTup0, E_dTup1, E_dTup2, E_dTup3, E_dTup4, E_dTup5, E_dTup6, E_dTup7, E_dTup8, E_dTup9, E_dTup10, E_dTup11, E_dTup12, E_dLst0, E_dLst1, E_dLst2, E_dLst3, E_dLst4, E_dLst5, E_dLst6, E_dLst7, E_dLst8, E_dLst9, E_dLst10, E_dLst11, E_dLst12, E_gcd, E_isNnon, E_notN, E_isB, E_notB, E_ixL, E_ixT, E_at0, E_at1, E_at2, E_at3, E_at4, E_at5, E_isi_int_N, E_isi_int_B, E_isi_int_I, E_isi_int_S, E_isi_int_T, E_isi_int_L, E_isi_int_C, E_isi_bool_N, E_isi_bool_B, E_isi_bool_I, E_isi_bool_S, E_isi_bool_T, E_isi_bool_L, E_isi_bool_C, E_isi_str_N, E_isi_str_B, E_isi_str_I, E_isi_str_S, E_isi_str_T, E_isi_str_L, E_isi_str_C, E_isi_list_N, E_isi_list_B, E_isi_list_I, E_isi_list_S, E_isi_list_T, E_isi_list_L, E_isi_list_C, E_isi_tuple_N, E_isi_tuple_B, E_isi_tuple_I, E_isi_tuple_S, E_isi_tuple_T, E_isi_tuple_L, E_isi_tuple_C, E_isi2_N, E_isi2_B, E_isi2_I, E_isi2_S, E_isi2_T, E_isi2_L, E_isi2_C, E_isN_B, E_notN_B, E_isN_I, E_notN_I, E_isN_S, E_notN_S, E_isN_T, E_notN_T, E_isN_L, E_notN_L, E_isN_C, E_notN_C, E_isa1, E_isa2, E_lk1, E_xf, E_fam, E_mul, E_fdiv, E_ixN, E_decT, E_decF, List.getElem?_cons_zero, List.getElem?_cons_succ, List.set_cons_zero, List.set_cons_succ, List.length_cons, List.length_nil, List.length_map, List.append_nil, List.cons_append, List.nil_append, entry, List.map_cons, List.map_nil, List.replicate_succ, List.replicate_zero, Nat.reduceAdd, Nat.reduceSub, Nat.reduceLT, Nat.reduceLeDiff, Nat.reduceEqDiff, Nat.zero_add, ↓reduceIte, decide_true, decide_false, Bool.not_true, Bool.not_false, eq_self, ne_eq, not_true_eq_false, not_false_eq_true, Int.reduceEq, Int.reduceToNat, Int.toNat_natCast, Int.reduceNe, Int.reduceLT, Int.reduceLE, Int.reduceNeg, Nat.reduceLeDiff, if_true, if_false, decide_not, Bool.true_and, Bool.and_true, Bool.false_and, Bool.and_false, Bool.not_not, reduceCtorEq, e1] <;> rfl)
  · refine ⟨_, l1, ?_, .inr (.inl ⟨a, 0, rfl, ha.mono (by decide), bd_of (N := 2) (by decide) (by decide) (by decide)⟩), g1⟩
    unfold f__law_spoiled m__law_spoiled
    (simp (disch := first | omega | assumption | (simp only [List.length_cons, List.length_nil, List.length_map, List.length_append, List.length_set]; omega)) only [E_c, E_var, E_own, E_bin, E_bin1, E_bin1x, E_bin2, E_bin2x, E_opt, E_un, E_un1, E_un1x, E_nil, E_cons, E_cons1, E_cons1x, E_cons2, E_cons2x, E_aF, E_tB, E_fB, E_fBx, E_tT, E_fT, E_fTx, E_selt, E_self, E_if, E_ifx, E_rOk, E_tAnd, E_tOr, E_tNot, E_fNotR, E_fNotRx, E_and, E_and1, E_and1x, E_or, E_or1, E_or1x, E_not, E_not1, E_not1x, E_eIf, E_selT, E_call, E_call1, E_call1x, E_to, E_tox, E_callN, E_callN1, E_toN, E_callH, E_ifOwn, E_callH1, E_callH2, E_toH, E_ixO, E_ixO1, E_ixO2, E_move, E_move1, E_ownA, E_ownA1, E_ownV, E_varV, E_seq, E_then, E_thenr, E_thenx, E_thenb, E_thenc, E_seqN, E_thenN, E_next, E_brk, E_ct, E_expr, E_expr1, E_expr1x, E_set, E_set1, E_set1x, E_ret, E_ret1, E_ret1x, E_retN, E_ifS, E_ifS1, E_ifS1x, E_asg, E_asg1, E_asg1x, E_asg2, E_nm, E_nilG, E_consG, E_obind, E_tupG2, E_tupG3, E_tupG4, E_par, E_par1, E_app, E_ifOwnS, E_app1, E_app1x, E_app20, E_app2, E_setIx, E_SI1, E_SI2, E_SI3, E_SI4, E_for, E_for1, E_for1x, E_items, E_items1, E_itL, E_itS, E_itT, E_rng1, E_rng11, E_rng2, E_rng21, E_lc, E_lc1, E_lc1x, E_lc2, E_runF, E_runr, E_runn, E_runx, E_runN, E_runNr, E_runH, E_runHr, E_runHn, E_runH2, E_raise1, E_R1, E_raise2, E_R2, E_R22, E_raise0, E_try, E_try1, E_tryr, E_tryx, E_try2, E_try2f, E_beh, E_behr, E_behb, E_behc, E_sl, E_sl1, E_sl2, E_sl3, E_sl3t, E_oN, E_oS, E_oS1, E_ch, E_ch1, E_ch2, E_ch3t, E_ch3f, E_ch4, E_enum, E_enum1, E_zip, E_zip1, E_zip1t, E_add, E_sub, E_neg, E_lt, E_le, E_gt, E_ge, E_eq, E_ne, E_mod, E_trI, E_trB, E_trN, E_trL, E_trT, E_lenL, E_lenT, E_lenS, E_listS, E_intB, E_intI, E_abs, E_listL, E_listT, E_tupleL, E_tupleT, E_dTup0, E_dTup1, E_dTup2, E_dTup3, E_dTup4, E_dTup5, E_dTup6, E_dTup7, E_dTup8, E_dTup9, E_dTup10, E_dTup11, E_dTup12, E_dLst0, E_dLst1, E_dLst2, E_dLst3, E_dLst4, E_dLst5, E_dLst6, E_dLst7, E_dLst8, E_dLst9, E_dLst10, E_dLst11, E_dLst12, E_gcd, E_isNnon, E_notN, E_isB, E_notB, E_ixL, E_ixT, E_at0, E_at1, E_at2, E_at3, E_at4, E_at5, E_isi_int_N, E_isi_int_B, E_isi_int_I, E_isi_int_S, E_isi_int_T, E_isi_int_L, E_isi_int_C, E_isi_bool_N, E_isi_bool_B, E_isi_bool_I, E_isi_bool_S, E_isi_bool_T, E_isi_bool_L, E_isi_bool_C, E_isi_str_N, E_isi_str_B, E_isi_str_I, E_isi_str_S, E_isi_str_T, E_isi_str_L, E_isi_str_C, E_isi_list_N, E_isi_list_B, E_isi_list_I, E_isi_list_S, E_isi_list_T, E_isi_list_L, E_isi_list_C, E_isi_tuple_N, E_isi_tuple_B, E_isi_tuple_I, E_isi_tuple_S, E_isi_tuple_T, E_isi_tuple_L, E_isi_tuple_C, E_isi2_N, E_isi2_B, E_isi2_I, E_isi2_S, E_isi2_T, E_isi2_L, E_isi2_C, E_isN_B, E_notN_B, E_isN_I, E_notN_I, E_isN_S, E_notN_S, E_isN_T, E_notN_T, E_isN_L, E_notN_L, E_isN_C, E_notN_C, E_isa1, E_isa2, E_lk1, E_xf, E_fam, E_mul, E_fdiv, E_ixN, E_decT, E_decF, List.getElem?_cons_zero, List.getElem?_cons_succ, List.set_cons_zero, List.set_cons_succ, List.length_cons, List.length_nil, List.length_map, List.append_nil, List.cons_append, List.nil_append, entry, List.map_cons, List.map_nil, List.replicate_succ, List.replicate_zero, Nat.reduceAdd, Nat.reduceSub, Nat.reduceLT, Nat.reduceLeDiff, Nat.reduceEqDiff, Nat.zero_add, ↓reduceIte, decide_true, decide_false, Bool.not_true, Bool.not_false, eq_self, ne_eq, not_true_eq_false, not_false_eq_true, Int.reduceEq, Int.reduceToNat, Int.toNat_natCast, Int.reduceNe, Int.reduceLT, Int.reduceLE, Int.reduceNeg, Nat.reduceLeDiff, if_true, if_false, decide_not, Bool.true_and, Bool.and_true, Bool.false_and, Bool.and_false, Bool.not_not, reduceCtorEq, e1] <;> rfl)
  · refine ⟨_, l1, ?_, .inr (.inr (.inl ⟨a, b, 1, rfl⟩)), g1⟩
    unfold f__law_spoiled m__law_spoiled
    (simp (disch := first | omega | assumption | (simp only [List.length_cons, List.length_nil, List.length_map, List.length_append, List.length_set]; omega)) only [E_c, E_var, E_own, E_bin, E_bin1, E_bin1x, E_bin2, E_bin2x, E_opt, E_un, E_un1, E_un1x, E_nil, E_cons, E_cons1, E_cons1x, E_cons2, E_cons2x, E_aF, E_tB, E_fB, E_fBx, E_tT, E_fT, E_fTx, E_selt, E_self, E_if, E_ifx, E_rOk, E_tAnd, E_tOr, E_tNot, E_fNotR, E_fNotRx, E_and, E_and1, E_and1x, E_or, E_or1, E_or1x, E_not, E_not1, E_not1x, E_eIf, E_selT, E_call, E_call1, E_call1x, E_to, E_tox, E_callN, E_callN1, E_toN, E_callH, E_ifOwn, E_callH1, E_callH2, E_toH, E_ixO, E_ixO1, E_ixO2, E_move, E_move1, E_ownA, E_ownA1, E_ownV, E_varV, E_seq, E_then, E_thenr, E_thenx, E_thenb, E_thenc, E_seqN, E_thenN, E_next, E_brk, E_ct, E_expr, E_expr1, E_expr1x, E_set, E_set1, E_set1x, E_ret, E_ret1, E_ret1x, E_retN, E_ifS, E_ifS1, E_ifS1x, E_asg, E_asg1, E_asg1x, E_asg2, E_nm, E_nilG, E_consG, E_obind, E_tupG2, E_tupG3, E_tupG4, E_par, E_par1, E_app, E_ifOwnS, E_app1, E_app1x, E_app20, E_app2, E_setIx, E_SI1, E_SI2, E_SI3, E_SI4, E_for, E_for1, E_for1x, E_items, E_items1, E_itL, E_itS, E_itT, E_rng1, E_rng11, E_rng2, E_rng21, E_lc, E_lc1, E_lc1x, E_lc2, E_runF, E_runr, E_runn, E_runx, E_runN, E_runNr, E_runH, E_runHr, E_runHn, E_runH2, E_raise1, E_R1, E_raise2, E_R2, E_R22, E_raise0, E_try, E_try1, E_tryr, E_tryx, E_try2, E_try2f, E_beh, E_behr, E_behb, E_behc, E_sl, E_sl1, E_sl2, E_sl3, E_sl3t, E_oN, E_oS, E_oS1, E_ch, E_ch1, E_ch2, E_ch3t, E_ch3f, E_ch4, E_enum, E_enum1, E_zip, E_zip1, E_zip1t, E_add, E_sub, E_neg, E_lt, E_le, E_gt, E_ge, E_eq, E_ne, E_mod, E_trI, E_trB, E_trN, E_trL, E_trT, E_lenL, E_lenT, E_lenS, E_listS, E_intB, E_intI, E_abs, E_listL, E_listT, E_tupleL, E_tupleT, E_dTup0, E_dTup1, E_dTup2, E_dTup3, E_dTup4, E_dTup5, E_dTup6, E_dTup7, E_dTup8, E_dTup9, E_dTup10, E_dTup11, E_dTup12, E_dLst0, E_dLst1, E_dLst2, E_dLst3, E_dLst4, E_dLst5, E_dLst6, E_dLst7, E_dLst8, E_dLst9, E_dLst10, E_dLst11, E_dLst12, E_gcd, E_isNnon, E_notN, E_isB, E_notB, E_ixL, E_ixT, E_at0, E_at1, E_at2, E_at3, E_at4, E_at5, E_isi_int_N, E_isi_int_B, E_isi_int_I, E_isi_int_S, E_isi_int_T, E_isi_int_L, E_isi_int_C, E_isi_bool_N, E_isi_bool_B, E_isi_bool_I, E_isi_bool_S, E_isi_bool_T, E_isi_bool_L, E_isi_bool_C, E_isi_str_N, E_isi_str_B, E_isi_str_I, E_isi_str_S, E_isi_str_T, E_isi_str_L, E_isi_str_C, E_isi_list_N, E_isi_list_B, E_isi_list_I, E_isi_list_S, E_isi_list_T, E_isi_list_L, E_isi_list_C, E_isi_tuple_N, E_isi_tuple_B, E_isi_tuple_I, E_isi_tuple_S, E_isi_tuple_T, E_isi_tuple_L, E_isi_tuple_C, E_isi2_N, E_isi2_B, E_isi2_I, E_isi2_S, E_isi2_T, E_isi2_L, E_isi2_C, E_isN_B, E_notN_B, E_isN_I, E_notN_I, E_isN_S, E_notN_S, E_isN_T, E_notN_T, E_isN_L, E_notN_L, E_isN_C, E_notN_C, E_isa1, E_isa2, E_lk1, E_xf, E_fam, E_mul, E_fdiv, E_ixN, E_decT, E_decF, List.getElem?_cons_zero, List.getElem?_cons_succ, List.set_cons_zero, List.set_cons_succ, List.length_cons, List.length_nil, List.length_map, List.append_nil, List.cons_append, List.nil_append, entry, List.map_cons, List.map_nil, List.replicate_succ, List.replicate_zero, Nat.reduceAdd, Nat.reduceSub, Nat.reduceLT, Nat.reduceLeDiff, Nat.reduceEqDiff, Nat.zero_add, ↓reduceIte, decide_true, decide_false, Bool.not_true, Bool.not_false, eq_self, ne_eq, not_true_eq_false, not_false_eq_true, Int.reduceEq, Int.reduceToNat, Int.toNat_natCast, Int.reduceNe, Int.reduceLT, Int.reduceLE, Int.reduceNeg, Nat.reduceLeDiff, if_true, if_false, decide_not, Bool.true_and, Bool.and_true, Bool.false_and, Bool.and_false, Bool.not_not, reduceCtorEq, e1] <;> rfl)
  · refine ⟨_, l1, ?_, .inr (.inr (.inr (.inl ⟨a, rfl⟩))), g1⟩
    unfold f__law_spoiled m__law_spoiled
    (simp (disch := first | omega | assumption | (simp only [List.length_cons, List.length_nil, List.length_map, List.length_append, List.length_set]; omega)) only [E_c, E_var, E_own, E_bin, E_bin1, E_bin1x, E_bin2, E_bin2x, E_opt, E_un, E_un1, E_un1x, E_nil, E_cons, E_cons1, E_cons1x, E_cons2, E_cons2x, E_aF, E_tB, E_fB, E_fBx, E_tT, E_fT, E_fTx, E_selt, E_self, E_if, E_ifx, E_rOk, E_tAnd, E_tOr, E_tNot, E_fNotR, E_fNotRx, E_and, E_and1, E_and1x, E_or, E_or1, E_or1x, E_not, E_not1, E_not1x, E_eIf, E_selT, E_call, E_call1, E_call1x, E_to, E_tox, E_callN, E_callN1, E_toN, E_callH, E_ifOwn, E_callH1, E_callH2, E_toH, E_ixO, E_ixO1, E_ixO2, E_move, E_move1, E_ownA, E_ownA1, E_ownV, E_varV, E_seq, E_then, E_thenr, E_thenx, E_thenb, E_thenc, E_seqN, E_thenN, E_next, E_brk, E_ct, E_expr, E_expr1, E_expr1x, E_set, E_set1, E_set1x, E_ret, E_ret1, E_ret1x, E_retN, E_ifS, E_ifS1, E_ifS1x, E_asg, E_asg1, E_asg1x, E_asg2, E_nm, E_nilG, E_consG, E_obind, E_tupG2, E_tupG3, E_tupG4, E_par, E_par1, E_app, E_ifOwnS, E_app1, E_app1x, E_app20, E_app2, E_setIx, E_SI1, E_SI2, E_SI3, E_SI4, E_for, E_for1, E_for1x, E_items, E_items1, E_itL, E_itS, E_itT, E_rng1, E_rng11, E_rng2, E_rng21, E_lc, E_lc1, E_lc1x, E_lc2, E_runF, E_runr, E_runn, E_runx, E_runN, E_runNr, E_runH, E_runHr, E_runHn, E_runH2, E_raise1, E_R1, E_raise2, E_R2, E_R22, E_raise0, E_try, E_try1, E_tryr, E_tryx, E_try2, E_try2f, E_beh, E_behr, E_behb, E_behc, E_sl, E_sl1, E_sl2, E_sl3, E_sl3t, E_oN, E_oS, E_oS1, E_ch, E_ch1, E_ch2, E_ch3t, E_ch3f, E_ch4, E_enum, E_enum1, E_zip, E_zip1, E_zip1t, E_add, E_sub, E_neg, E_lt, E_le, E_gt, E_ge, E_eq, E_ne, E_mod, E_trI, E_trB, E_trN, E_trL, E_trT, E_lenL, E_lenT, E_lenS, E_listS, E_intB, E_intI, E_abs, E_listL, E_listT, E_tupleL, E_tupleT, E_dTup0, E_dTup1, E_dTup2, E_dTup3, E_dTup4, E_dTup5, E_dTup6, E_dTup7, E_dTup8, E_dTup9, E_dTup10, E_dTup11, E_dTup12, E_dLst0, E_dLst1, E_dLst2, E_dLst3, E_dLst4, E_dLst5, E_dLst6, E_dLst7, E_dLst8, E_dLst9, E_dLst10, E_dLst11, E_dLst12, E_gcd, E_isNnon, E_notN, E_isB, E_notB, E_ixL, E_ixT, E_at0, E_at1, E_at2, E_at3, E_at4, E_at5, E_isi_int_N, E_isi_int_B, E_isi_int_I, E_isi_int_S, E_isi_int_T, E_isi_int_L, E_isi_int_C, E_isi_bool_N, E_isi_bool_B, E_isi_bool_I, E_isi_bool_S, E_isi_bool_T, E_isi_bool_L, E_isi_bool_C, E_isi_str_N, E_isi_str_B, E_isi_str_I, E_isi_str_S, E_isi_str_T, E_isi_str_L, E_isi_str_C, E_isi_list_N, E_isi_list_B, E_isi_list_I, E_isi_list_S, E_isi_list_T, E_isi_list_L, E_isi_list_C, E_isi_tuple_N, E_isi_tuple_B, E_isi_tuple_I, E_isi_tuple_S, E_isi_tuple_T, E_isi_tuple_L, E_isi_tuple_C, E_isi2_N, E_isi2_B, E_isi2_I, E_isi2_S, E_isi2_T, E_isi2_L, E_isi2_C, E_isN_B, E_notN_B, E_isN_I, E_notN_I, E_isN_S, E_notN_S, E_isN_T, E_notN_T, E_isN_L, E_notN_L, E_isN_C, E_notN_C, E_isa1, E_isa2, E_lk1, E_xf, E_fam, E_mul, E_fdiv, E_ixN, E_decT, E_decF, List.getElem?_cons_zero, List.getElem?_cons_succ, List.set_cons_zero, List.set_cons_succ, List.length_cons, List.length_nil, List.length_map, List.append_nil, List.cons_append, List.nil_append, entry, List.map_cons, List.map_nil, List.replicate_succ, List.replicate_zero, Nat.reduceAdd, Nat.reduceSub, Nat.reduceLT, Nat.reduceLeDiff, Nat.reduceEqDiff, Nat.zero_add, ↓reduceIte, decide_true, decide_false, Bool.not_true, Bool.not_false, eq_self, ne_eq, not_true_eq_false, not_false_eq_true, Int.reduceEq, Int.reduceToNat, Int.toNat_natCast, Int.reduceNe, Int.reduceLT, Int.reduceLE, Int.reduceNeg, Nat.reduceLeDiff, if_true, if_false, decide_not, Bool.true_and, Bool.and_true, Bool.false_and, Bool.and_false, Bool.not_not, reduceCtorEq, e1] <;> rfl)
  · refine ⟨_, l2, ?_, .inr (.inr (.inr (.inr (.inl ⟨o, b, ho, rfl⟩)))), g2⟩
    unfold f__law_spoiled m__law_spoiled
    (simp (disch := first | omega | assumption | (simp only [List.length_cons, List.length_nil, List.length_map, List.length_append, List.length_set]; omega)) only [E_c, E_var, E_own, E_bin, E_bin1, E_bin1x, E_bin2, E_bin2x, E_opt, E_un, E_un1, E_un1x, E_nil, E_cons, E_cons1, E_cons1x, E_cons2, E_cons2x, E_aF, E_tB, E_fB, E_fBx, E_tT, E_fT, E_fTx, E_selt, E_self, E_if, E_ifx, E_rOk, E_tAnd, E_tOr, E_tNot, E_fNotR, E_fNotRx, E_and, E_and1, E_and1x, E_or, E_or1, E_or1x, E_not, E_not1, E_not1x, E_eIf, E_selT, E_call, E_call1, E_call1x, E_to, E_tox, E_callN, E_callN1, E_toN, E_callH, E_ifOwn, E_callH1, E_callH2, E_toH, E_ixO, E_ixO1, E_ixO2, E_move, E_move1, E_ownA, E_ownA1, E_ownV, E_varV, E_seq, E_then, E_thenr, E_thenx, E_thenb, E_thenc, E_seqN, E_thenN, E_next, E_brk, E_ct, E_expr, E_expr1, E_expr1x, E_set, E_set1, E_set1x, E_ret, E_ret1, E_ret1x, E_retN, E_ifS, E_ifS1, E_ifS1x, E_asg, E_asg1, E_asg1x, E_asg2, E_nm, E_nilG, E_consG, E_obind, E_tupG2, E_tupG3, E_tupG4, E_par, E_par1, E_app, E_ifOwnS, E_app1, E_app1x, E_app20, E_app2, E_setIx, E_SI1, E_SI2, E_SI3, E_SI4, E_for, E_for1, E_for1x, E_items, E_items1, E_itL, E_itS, E_itT, E_rng1, E_rng11, E_rng2, E_rng21, E_lc, E_lc1, E_lc1x, E_lc2, E_runF, E_runr, E_runn, E_runx, E_runN, E_runNr, E_runH, E_runHr, E_runHn, E_runH2, E_raise1, E_R1, E_raise2, E_R2, E_R22, E_raise0, E_try, E_try1, E_tryr, E_tryx, E_try2, E_try2f, E_beh, E_behr, E_behb, E_behc, E_sl, E_sl1, E_sl2, E_sl3, E_sl3t, E_oN, E_oS, E_oS1, E_ch, E_ch1, E_ch2, E_ch3t, E_ch3f, E_ch4, E_enum, E_enum1, E_zip, E_zip1, E_zip1t, E_add, E_sub, E_neg, E_lt, E_le, E_gt, E_ge, E_eq, E_ne, E_mod, E_trI, E_trB, E_trN, E_trL, E_trT, E_lenL, E_lenT, E_lenS, E_listS, E_intB, E_intI, E_abs, E_listL, E_listT, E_tupleL, E_tupleT, E_dTup0, E_dTup1, E_dTup2, E_dTup3, E_dTup4, E_dTup5, E_dTup6, E_dTup7, E_dTup8, E_dTup9, E_dTup10, E_dTup11, E_dTup12, E_dLst0, E_dLst1, E_dLst2, E_dLst3, E_dLst4, E_dLst5, E_dLst6, E_dLst7, E_dLst8, E_dLst9, E_dLst10, E_dLst11, E_dLst12, E_gcd, E_isNnon, E_notN, E_isB, E_notB, E_ixL, E_ixT, E_at0, E_at1, E_at2, E_at3, E_at4, E_at5, E_isi_int_N, E_isi_int_B, E_isi_int_I, E_isi_int_S, E_isi_int_T, E_isi_int_L, E_isi_int_C, E_isi_bool_N, E_isi_bool_B, E_isi_bool_I, E_isi_bool_S, E_isi_bool_T, E_isi_bool_L, E_isi_bool_C, E_isi_str_N, E_isi_str_B, E_isi_str_I, E_isi_str_S, E_isi_str_T, E_isi_str_L, E_isi_str_C, E_isi_list_N, E_isi_list_B, E_isi_list_I, E_isi_list_S, E_isi_list_T, E_isi_list_L, E_isi_list_C, E_isi_tuple_N, E_isi_tuple_B, E_isi_tuple_I, E_isi_tuple_S, E_isi_tuple_T, E_isi_tuple_L, E_isi_tuple_C, E_isi2_N, E_isi2_B, E_isi2_I, E_isi2_S, E_isi2_T, E_isi2_L, E_isi2_C, E_isN_B, E_notN_B, E_isN_I, E_notN_I, E_isN_S, E_notN_S, E_isN_T, E_notN_T, E_isN_L, E_notN_L, E_isN_C, E_notN_C, E_isa1, E_isa2, E_lk1, E_xf, E_fam, E_mul, E_fdiv, E_ixN, E_decT, E_decF, List.getElem?_cons_zero, List.getElem?_cons_succ, List.set_cons_zero, List.set_cons_succ, List.length_cons, List.length_nil, List.length_map, List.append_nil, List.cons_append, List.nil_append, entry, List.map_cons, List.map_nil, List.replicate_succ, List.replicate_zero, Nat.reduceAdd, Nat.reduceSub, Nat.reduceLT, Nat.reduceLeDiff, Nat.reduceEqDiff, Nat.zero_add, ↓reduceIte, decide_true, decide_false, Bool.not_true, Bool.not_false, eq_self, ne_eq, not_true_eq_false, not_false_eq_true, Int.reduceEq, Int.reduceToNat, Int.toNat_natCast, Int.reduceNe, Int.reduceLT, Int.reduceLE, Int.reduceNeg, Nat.reduceLeDiff, if_true, if_false, decide_not, Bool.true_and, Bool.and_true, Bool.false_and, Bool.and_false, Bool.not_not, reduceCtorEq, e1, e2] <;> rfl)
  · refine ⟨_, l2, ?_, .inr (.inr (.inr (.inr (.inr (.inl ⟨a, o, ho, rfl⟩))))), g2⟩
    unfold f__law_spoiled m__law_spoiled
    (simp (disch := first | omega | assumption | (simp only [List.length_cons, List.length_nil, List.length_map, List.length_append, List.length_set]; omega)) only [E_c, E_var, E_own, E_bin, E_bin1, E_bin1x, E_bin2, E_bin2x, E_opt, E_un, E_un1, E_un1x, E_nil, E_cons, E_cons1, E_cons1x, E_cons2, E_cons2x, E_aF, E_tB, E_fB, E_fBx, E_tT, E_fT, E_fTx, E_selt, E_self, E_if, E_ifx, E_rOk, E_tAnd, E_tOr, E_tNot, E_fNotR, E_fNotRx, E_and, E_and1, E_and1x, E_or, E_or1, E_or1x, E_not, E_not1, E_not1x, E_eIf, E_selT, E_call, E_call1, E_call1x, E_to, E_tox, E_callN, E_callN1, E_toN, E_callH, E_ifOwn, E_callH1, E_callH2, E_toH, E_ixO, E_ixO1, E_ixO2, E_move, E_move1, E_ownA, E_ownA1, E_ownV, E_varV, E_seq, E_then, E_thenr, E_thenx, E_thenb, E_thenc, E_seqN, E_thenN, E_next, E_brk, E_ct, E_expr, E_expr1, E_expr1x, E_set, E_set1, E_set1x, E_ret, E_ret1, E_ret1x, E_retN, E_ifS, E_ifS1, E_ifS1x, E_asg, E_asg1, E_asg1x, E_asg2, E_nm, E_nilG, E_consG, E_obind, E_tupG2, E_tupG3, E_tupG4, E_par, E_par1, E_app, E_ifOwnS, E_app1, E_app1x, E_app20, E_app2, E_setIx, E_SI1, E_SI2, E_SI3, E_SI4, E_for, E_for1, E_for1x, E_items, E_items1, E_itL, E_itS, E_itT, E_rng1, E_rng11, E_rng2, E_rng21, E_lc, E_lc1, E_lc1x, E_lc2, E_runF, E_runr, E_runn, E_runx, E_runN, E_runNr, E_runH, E_runHr, E_runHn, E_runH2, E_raise1, E_R1, E_raise2, E_R2, E_R22, E_raise0, E_try, E_try1, E_tryr, E_tryx, E_try2, E_try2f, E_beh, E_behr, E_behb, E_behc, E_sl, E_sl1, E_sl2, E_sl3, E_sl3t, E_oN, E_oS, E_oS1, E_ch, E_ch1, E_ch2, E_ch3t, E_ch3f, E_ch4, E_enum, E_enum1, E_zip, E_zip1, E_zip1t, E_add, E_sub, E_neg, E_lt, E_le, E_gt, E_ge, E_eq, E_ne, E_mod, E_trI, E_trB, E_trN, E_trL, E_trT, E_lenL, E_lenT, E_lenS, E_listS, E_intB, E_intI, E_abs, E_listL, E_listT, E_tupleL, E_tupleT, E_dTup0, E_dTup1, E_dTup2, E_dTup3, E_dTup4, E_dTup5, E_dTup6, E_dTup7, E_dTup8, E_dTup9, E_dTup10, E_dTup11, E_dTup12, E_dLst0, E_dLst1, E_dLst2, E_dLst3, E_dLst4, E_dLst5, E_dLst6, E_dLst7, E_dLst8, E_dLst9, E_dLst10, E_dLst11, E_dLst12, E_gcd, E_isNnon, E_notN, E_isB, E_notB, E_ixL, E_ixT, E_at0, E_at1, E_at2, E_at3, E_at4, E_at5, E_isi_int_N, E_isi_int_B, E_isi_int_I, E_isi_int_S, E_isi_int_T, E_isi_int_L, E_isi_int_C, E_isi_bool_N, E_isi_bool_B, E_isi_bool_I, E_isi_bool_S, E_isi_bool_T, E_isi_bool_L, E_isi_bool_C, E_isi_str_N, E_isi_str_B, E_isi_str_I, E_isi_str_S, E_isi_str_T, E_isi_str_L, E_isi_str_C, E_isi_list_N, E_isi_list_B, E_isi_list_I, E_isi_list_S, E_isi_list_T, E_isi_list_L, E_isi_list_C, E_isi_tuple_N, E_isi_tuple_B, E_isi_tuple_I, E_isi_tuple_S, E_isi_tuple_T, E_isi_tuple_L, E_isi_tuple_C, E_isi2_N, E_isi2_B, E_isi2_I, E_isi2_S, E_isi2_T, E_isi2_L, E_isi2_C, E_isN_B, E_notN_B, E_isN_I, E_notN_I, E_isN_S, E_notN_S, E_isN_T, E_notN_T, E_isN_L, E_notN_L, E_isN_C, E_notN_C, E_isa1, E_isa2, E_lk1, E_xf, E_fam, E_mul, E_fdiv, E_ixN, E_decT, E_decF, List.getElem?_cons_zero, List.getElem?_cons_succ, List.set_cons_zero, List.set_cons_succ, List.length_cons, List.length_nil, List.length_map, List.append_nil, List.cons_append, List.nil_append, entry, List.map_cons, List.map_nil, List.replicate_succ, List.replicate_zero, Nat.reduceAdd, Nat.reduceSub, Nat.reduceLT, Nat.reduceLeDiff, Nat.reduceEqDiff, Nat.zero_add, ↓reduceIte, decide_true, decide_false, Bool.not_true, Bool.not_false, eq_self, ne_eq, not_true_eq_false, not_false_eq_true, Int.reduceEq, Int.reduceToNat, Int.toNat_natCast, Int.reduceNe, Int.reduceLT, Int.reduceLE, Int.reduceNeg, Nat.reduceLeDiff, if_true, if_false, decide_not, Bool.true_and, Bool.and_true, Bool.false_and, Bool.and_false, Bool.not_not, reduceCtorEq, e1, e2] <;> rfl)
  · refine ⟨_, l1, ?_, .inr (.inl ⟨a + 1, 1 + (if a < 0 then -a else a), rfl, (ha.add (h1.mono (by decide))).mono (by decide), ((h1.mono (show 2 ≤ 140 by decide)).add hab).mono (by decide)⟩), g1⟩
    unfold f__law_spoiled m__law_spoiled
    (simp (disch := first | omega | assumption | (simp only [List.length_cons, List.length_nil, List.length_map, List.length_append, List.length_set]; omega)) only [E_c, E_var, E_own, E_bin, E_bin1, E_bin1x, E_bin2, E_bin2x, E_opt, E_un, E_un1, E_un1x, E_nil, E_cons, E_cons1, E_cons1x, E_cons2, E_cons2x, E_aF, E_tB, E_fB, E_fBx, E_tT, E_fT, E_fTx, E_selt, E_self, E_if, E_ifx, E_rOk, E_tAnd, E_tOr, E_tNot, E_fNotR, E_fNotRx, E_and, E_and1, E_and1x, E_or, E_or1, E_or1x, E_not, E_not1, E_not1x, E_eIf, E_selT, E_call, E_call1, E_call1x, E_to, E_tox, E_callN, E_callN1, E_toN, E_callH, E_ifOwn, E_callH1, E_callH2, E_toH, E_ixO, E_ixO1, E_ixO2, E_move, E_move1, E_ownA, E_ownA1, E_ownV, E_varV, E_seq, E_then, E_thenr, E_thenx, E_thenb, E_thenc, E_seqN, E_thenN, E_next, E_brk, E_ct, E_expr, E_expr1, E_expr1x, E_set, E_set1, E_set1x, E_ret, E_ret1, E_ret1x, E_retN, E_ifS, E_ifS1, E_ifS1x, E_asg, E_asg1, E_asg1x, E_asg2, E_nm, E_nilG, E_consG, E_obind, E_tupG2, E_tupG3, E_tupG4, E_par, E_par1, E_app, E_ifOwnS, E_app1, E_app1x, E_app20, E_app2, E_setIx, E_SI1, E_SI2, E_SI3, E_SI4, E_for, E_for1, E_for1x, E_items, E_items1, E_itL, E_itS, E_itT, E_rng1, E_rng11, E_rng2, E_rng21, E_lc, E_lc1, E_lc1x, E_lc2, E_runF, E_runr, E_runn, E_runx, E_runN, E_runNr, E_runH, E_runHr, E_runHn, E_runH2, E_raise1, E_R1, E_raise2, E_R2, E_R22, E_raise0, E_try, E_try1, E_tryr, E_tryx, E_try2, E_try2f, E_beh, E_behr, E_behb, E_behc, E_sl, E_sl1, E_sl2, E_sl3, E_sl3t, E_oN, E_oS, E_oS1, E_ch, E_ch1, E_ch2, E_ch3t, E_ch3f, E_ch4, E_enum, E_enum1, E_zip, E_zip1, E_zip1t, E_add, E_sub, E_neg, E_lt, E_le, E_gt, E_ge, E_eq, E_ne, E_mod, E_trI, E_trB, E_trN, E_trL, E_trT, E_lenL, E_lenT, E_lenS, E_listS, E_intB, E_intI, E_abs, E_listL, E_listT, E_tupleL, E_tupleT, E_dTup0, E_dTup1, E_dTup2, E_dTup3, E_dTup4, E_dTup5, E_dTup6, E_dTup7, E_dTup8, E_dTup9, E_dTup10, E_dTup11, E_dTup12, E_dLst0, E_dLst1, E_dLst2, E_dLst3, E_dLst4, E_dLst5, E_dLst6, E_dLst7, E_dLst8, E_dLst9, E_dLst10, E_dLst11, E_dLst12, E_gcd, E_isNnon, E_notN, E_isB, E_notB, E_ixL, E_ixT, E_at0, E_at1, E_at2, E_at3, E_at4, E_at5, E_isi_int_N, E_isi_int_B, E_isi_int_I, E_isi_int_S, E_isi_int_T, E_isi_int_L, E_isi_int_C, E_isi_bool_N, E_isi_bool_B, E_isi_bool_I, E_isi_bool_S, E_isi_bool_T, E_isi_bool_L, E_isi_bool_C, E_isi_str_N, E_isi_str_B, E_isi_str_I, E_isi_str_S, E_isi_str_T, E_isi_str_L, E_isi_str_C, E_isi_list_N, E_isi_list_B, E_isi_list_I, E_isi_list_S, E_isi_list_T, E_isi_list_L, E_isi_list_C, E_isi_tuple_N, E_isi_tuple_B, E_isi_tuple_I, E_isi_tuple_S, E_isi_tuple_T, E_isi_tuple_L, E_isi_tuple_C, E_isi2_N, E_isi2_B, E_isi2_I, E_isi2_S, E_isi2_T, E_isi2_L, E_isi2_C, E_isN_B, E_notN_B, E_isN_I, E_notN_I, E_isN_S, E_notN_S, E_isN_T, E_notN_T, E_isN_L, E_notN_L, E_isN_C, E_notN_C, E_isa1, E_isa2, E_lk1, E_xf, E_fam, E_mul, E_fdiv, E_ixN, E_decT, E_decF, List.getElem?_cons_zero, List.getElem?_cons_succ, List.set_cons_zero, List.set_cons_succ, List.length_cons, List.length_nil, List.length_map, List.append_nil, List.cons_append, List.nil_append, entry, List.map_cons, List.map_nil, List.replicate_succ, List.replicate_zero, Nat.reduceAdd, Nat.reduceSub, Nat.reduceLT, Nat.reduceLeDiff, Nat.reduceEqDiff, Nat.zero_add, ↓reduceIte, decide_true, decide_false, Bool.not_true, Bool.not_false, eq_self, ne_eq, not_true_eq_false, not_false_eq_true, Int.reduceEq, Int.reduceToNat, Int.toNat_natCast, Int.reduceNe, Int.reduceLT, Int.reduceLE, Int.reduceNeg, Nat.reduceLeDiff, if_true, if_false, decide_not, Bool.true_and, Bool.and_true, Bool.false_and, Bool.and_false, Bool.not_not, reduceCtorEq, e1, ea] <;> rfl)
  · refine ⟨_, l2, ?_, .inr (.inr (.inr (.inr (.inr (.inr ho))))), g2⟩
    unfold f__law_spoiled m__law_spoiled
    (simp (disch := first | omega | assumption | (simp only [List.length_cons, List.length_nil, List.length_map, List.length_append, List.length_set]; omega)) only [E_c, E_var, E_own, E_bin, E_bin1, E_bin1x, E_bin2, E_bin2x, E_opt, E_un, E_un1, E_un1x, E_nil, E_cons, E_cons1, E_cons1x, E_cons2, E_cons2x, E_aF, E_tB, E_fB, E_fBx, E_tT, E_fT, E_fTx, E_selt, E_self, E_if, E_ifx, E_rOk, E_tAnd, E_tOr, E_tNot, E_fNotR, E_fNotRx, E_and, E_and1, E_and1x, E_or, E_or1, E_or1x, E_not, E_not1, E_not1x, E_eIf, E_selT, E_call, E_call1, E_call1x, E_to, E_tox, E_callN, E_callN1, E_toN, E_callH, E_ifOwn, E_callH1, E_callH2, E_toH, E_ixO, E_ixO1, E_ixO2, E_move, E_move1, E_ownA, E_ownA1, E_ownV, E_varV, E_seq, E_then, E_thenr, E_thenx, E_thenb, E_thenc, E_seqN, E_thenN, E_next, E_brk, E_ct, E_expr, E_expr1, E_expr1x, E_set, E_set1, E_set1x, E_ret, E_ret1, E_ret1x, E_retN, E_ifS, E_ifS1, E_ifS1x, E_asg, E_asg1, E_asg1x, E_asg2, E_nm, E_nilG, E_consG, E_obind, E_tupG2, E_tupG3, E_tupG4, E_par, E_par1, E_app, E_ifOwnS, E_app1, E_app1x, E_app20, E_app2, E_setIx, E_SI1, E_SI2, E_SI3, E_SI4, E_for, E_for1, E_for1x, E_items, E_items1, E_itL, E_itS, E_itT, E_rng1, E_rng11, E_rng2, E_rng21, E_lc, E_lc1, E_lc1x, E_lc2, E_runF, E_runr, E_runn, E_runx, E_runN, E_runNr, E_runH, E_runHr, E_runHn, E_runH2, E_raise1, E_R1, E_raise2, E_R2, E_R22, E_raise0, E_try, E_try1, E_tryr, E_tryx, E_try2, E_try2f, E_beh, E_behr, E_behb, E_behc, E_sl, E_sl1, E_sl2, E_sl3, E_sl3t, E_oN, E_oS, E_oS1, E_ch, E_ch1, E_ch2, E_ch3t, E_ch3f, E_ch4, E_enum, E_enum1, E_zip, E_zip1, E_zip1t, E_add, E_sub, E_neg, E_lt, E_le, E_gt, E_ge, E_eq, E_ne, E_mod, E_trI, E_trB, E_trN, E_trL, E_trT, E_lenL, E_lenT, E_lenS, E_listS, E_intB, E_intI, E_abs, E_listL, E_listT, E_tupleL, E_tupleT, E_dTup0, E_dTup1, E_dTup2, E_dTup3, E_dTup4, E_dTup5, E_dTup6, E_dTup7, E_dTup8, E_dTup9, E_dTup10, E_dTup11, E_dTup12, E_dLst0, E_dLst1, E_dLst2, E_dLst3, E_dLst4, E_dLst5, E_dLst6, E_dLst7, E_dLst8, E_dLst9, E_dLst10, E_dLst11, E_dLst12, E_gcd, E_isNnon, E_notN, E_isB, E_notB, E_ixL, E_ixT, E_at0, E_at1, E_at2, E_at3, E_at4, E_at5, E_isi_int_N, E_isi_int_B, E_isi_int_I, E_isi_int_S, E_isi_int_T, E_isi_int_L, E_isi_int_C, E_isi_bool_N, E_isi_bool_B, E_isi_bool_I, E_isi_bool_S, E_isi_bool_T, E_isi_bool_L, E_isi_bool_C, E_isi_str_N, E_isi_str_B, E_isi_str_I, E_isi_str_S, E_isi_str_T, E_isi_str_L, E_isi_str_C, E_isi_list_N, E_isi_list_B, E_isi_list_I, E_isi_list_S, E_isi_list_T, E_isi_list_L, E_isi_list_C, E_isi_tuple_N, E_isi_tuple_B, E_isi_tuple_I, E_isi_tuple_S, E_isi_tuple_T, E_isi_tuple_L, E_isi_tuple_C, E_isi2_N, E_isi2_B, E_isi2_I, E_isi2_S, E_isi2_T, E_isi2_L, E_isi2_C, E_isN_B, E_notN_B, E_isN_I, E_notN_I, E_isN_S, E_notN_S, E_isN_T, E_notN_T, E_isN_L, E_notN_L, E_isN_C, E_notN_C, E_isa1, E_isa2, E_lk1, E_xf, E_fam, E_mul, E_fdiv, E_ixN, E_decT, E_decF, List.getElem?_cons_zero, List.getElem?_cons_succ, List.set_cons_zero, List.set_cons_succ, List.length_cons, List.length_nil, List.length_map, List.append_nil, List.cons_append, List.nil_append, entry, List.map_cons, List.map_nil, List.replicate_succ, List.replicate_zero, Nat.reduceAdd, Nat.reduceSub, Nat.reduceLT, Nat.reduceLeDiff, Nat.reduceEqDiff, Nat.zero_add, ↓reduceIte, decide_true, decide_false, Bool.not_true, Bool.not_false, eq_self, ne_eq, not_true_eq_false, not_false_eq_true, Int.reduceEq, Int.reduceToNat, Int.toNat_natCast, Int.reduceNe, Int.reduceLT, Int.reduceLE, Int.reduceNeg, Nat.reduceLeDiff, if_true, if_false, decide_not, Bool.true_and, Bool.and_true, Bool.false_and, Bool.and_false, Bool.not_not, reduceCtorEq, e1, e2] <;> rfl)
theorem isw3 {x : Int} {low high : D} (hl : low = .non ∨ ∃ z, low = .int z) (hh : high = .non ∨ ∃ z, high = .int z) : ∃ r : Bool, f_is_whole [.int x, low, high] = .ok (.bl r) ∧
    ∀ ρ : Py.Env, ρ[3]? = some (some (.int x)) → ρ[4]? = some (some low) → ρ[5]? = some (some high) →
      (eAnd (eOr (eUn dIsN (eVar 4)) (eBin dLe (eVar 4) (eVar 3))) (eOr (eUn dIsN (eVar 5)) (eBin dLe (eVar 3) (eVar 5)))) ρ = .ok (.bl r) ρ := by
  rcases hl with rfl | ⟨u, rfl⟩ <;> rcases hh with rfl | ⟨v, rfl⟩
  · refine ⟨true, rfl, fun ρ h3 h4 h5 => ?_⟩
    (simp (disch := first | omega | assumption | (simp only [List.length_cons, List.length_nil, List.length_map, List.length_append, List.length_set]; omega)) only [E_c, E_var, E_own, E_bin, E_bin1, E_bin1x, E_bin2, E_bin2x, E_opt, E_un, E_un1, E_un1x, E_nil, E_cons, E_cons1, E_cons1x, E_cons2, E_cons2x, E_aF, E_tB, E_fB, E_fBx, E_tT, E_fT, E_fTx, E_selt, E_self, E_if, E_ifx, E_rOk, E_tAnd, E_tOr, E_tNot, E_fNotR, E_fNotRx, E_and, E_and1, E_and1x, E_or, E_or1, E_or1x, E_not, E_not1, E_not1x, E_eIf, E_selT, E_call, E_call1, E_call1x, E_to, E_tox, E_callN, E_callN1, E_toN, E_callH, E_ifOwn, E_callH1, E_callH2, E_toH, E_ixO, E_ixO1, E_ixO2, E_move, E_move1, E_ownA, E_ownA1, E_ownV, E_varV, E_seq, E_then, E_thenr, E_thenx, E_thenb, E_thenc, E_seqN, E_thenN, E_next, E_brk, E_ct, E_expr, E_expr1, E_expr1x, E_set, E_set1, E_set1x, E_ret, E_ret1, E_ret1x, E_retN, E_ifS, E_ifS1, E_ifS1x, E_asg, E_asg1, E_asg1x, E_asg2, E_nm, E_nilG, E_consG, E_obind, E_tupG2, E_tupG3, E_tupG4, E_par, E_par1, E_app, E_ifOwnS, E_app1, E_app1x, E_app20, E_app2, E_setIx, E_SI1, E_SI2, E_SI3, E_SI4, E_for, E_for1, E_for1x, E_items, E_items1, E_itL, E_itS, E_itT, E_rng1, E_rng11, E_rng2, E_rng21, E_lc, E_lc1, E_lc1x, E_lc2, E_runF, E_runr, E_runn, E_runx, E_runN, E_runNr, E_runH, E_runHr, E_runHn, E_runH2, E_raise1, E_R1, E_raise2, E_R2, E_R22, E_raise0, E_try, E_try1, E_tryr, E_tryx, E_try2, E_try2f, E_beh, E_behr, E_behb, E_behc, E_sl, E_sl1, E_sl2, E_sl3, E_sl3t, E_oN, E_oS, E_oS1, E_ch, E_ch1, E_ch2, E_ch3t, E_ch3f, E_ch4, E_enum, E_enum1, E_zip, E_zip1, E_zip1t, E_add, E_sub, E_neg, E_lt, E_le, E_gt, E_ge, E_eq, E_ne, E_mod, E_trI, E_trB, E_trN, E_trL, E_trT, E_lenL, E_lenT, E_lenS, E_listS, E_intB, E_intI, E_abs, E_listL, E_listT, E_tupleL, E_tupleT, E_dTup0, E_dTup1, E_dTup2, E_dTup3, E_dTup4, E_dTup5, E_dTup6, E_dTup7, E_dTup8, E_dTup9, E_dTup10, E_dTup11, E_dTup12, E_dLst0, E_dLst1, E_dLst2, E_dLst3, E_dLst4, E_dLst5, E_dLst6, E_dLst7, E_dLst8, E_dLst9, E_dLst10, E_dLst11, E_dLst12, E_gcd, E_isNnon, E_notN, E_isB, E_notB, E_ixL, E_ixT, E_at0, E_at1, E_at2, E_at3, E_at4, E_at5, E_isi_int_N, E_isi_int_B, E_isi_int_I, E_isi_int_S, E_isi_int_T, E_isi_int_L, E_isi_int_C, E_isi_bool_N, E_isi_bool_B, E_isi_bool_I, E_isi_bool_S, E_isi_bool_T, E_isi_bool_L, E_isi_bool_C, E_isi_str_N, E_isi_str_B, E_isi_str_I, E_isi_str_S, E_isi_str_T, E_isi_str_L, E_isi_str_C, E_isi_list_N, E_isi_list_B, E_isi_list_I, E_isi_list_S, E_isi_list_T, E_isi_list_L, E_isi_list_C, E_isi_tuple_N, E_isi_tuple_B, E_isi_tuple_I, E_isi_tuple_S, E_isi_tuple_T, E_isi_tuple_L, E_isi_tuple_C, E_isi2_N, E_isi2_B, E_isi2_I, E_isi2_S, E_isi2_T, E_isi2_L, E_isi2_C, E_isN_B, E_notN_B, E_isN_I, E_notN_I, E_isN_S, E_notN_S, E_isN_T, E_notN_T, E_isN_L, E_notN_L, E_isN_C, E_notN_C, E_isa1, E_isa2, E_lk1, E_xf, E_fam, E_mul, E_fdiv, E_ixN, E_decT, E_decF, List.getElem?_cons_zero, List.getElem?_cons_succ, List.set_cons_zero, List.set_cons_succ, List.length_cons, List.length_nil, List.length_map, List.append_nil, List.cons_append, List.nil_append, entry, List.map_cons, List.map_nil, List.replicate_succ, List.replicate_zero, Nat.reduceAdd, Nat.reduceSub, Nat.reduceLT, Nat.reduceLeDiff, Nat.reduceEqDiff, Nat.zero_add, ↓reduceIte, decide_true, decide_false, Bool.not_true, Bool.not_false, eq_self, ne_eq, not_true_eq_false, not_false_eq_true, Int.reduceEq, Int.reduceToNat, Int.toNat_natCast, Int.reduceNe, Int.reduceLT, Int.reduceLE, Int.reduceNeg, Nat.reduceLeDiff, if_true, if_false, decide_not, Bool.true_and, Bool.and_true, Bool.false_and, Bool.and_false, Bool.not_not, reduceCtorEq, h3, h4, h5] <;> rfl)
  · refine ⟨decide (x ≤ v), rfl, fun ρ h3 h4 h5 => ?_⟩
    (simp (disch := first | omega | assumption | (simp only [List.length_cons, List.length_nil, List.length_map, List.length_append, List.length_set]; omega)) only [E_c, E_var, E_own, E_bin, E_bin1, E_bin1x, E_bin2, E_bin2x, E_opt, E_un, E_un1, E_un1x, E_nil, E_cons, E_cons1, E_cons1x, E_cons2, E_cons2x, E_aF, E_tB, E_fB, E_fBx, E_tT, E_fT, E_fTx, E_selt, E_self, E_if, E_ifx, E_rOk, E_tAnd, E_tOr, E_tNot, E_fNotR, E_fNotRx, E_and, E_and1, E_and1x, E_or, E_or1, E_or1x, E_not, E_not1, E_not1x, E_eIf, E_selT, E_call, E_call1, E_call1x, E_to, E_tox, E_callN, E_callN1, E_toN, E_callH, E_ifOwn, E_callH1, E_callH2, E_toH, E_ixO, E_ixO1, E_ixO2, E_move, E_move1, E_ownA, E_ownA1, E_ownV, E_varV, E_seq, E_then, E_thenr, E_thenx, E_thenb, E_thenc, E_seqN, E_thenN, E_next, E_brk, E_ct, E_expr, E_expr1, E_expr1x, E_set, E_set1, E_set1x, E_ret, E_ret1, E_ret1x, E_retN, E_ifS, E_ifS1, E_ifS1x, E_asg, E_asg1, E_asg1x, E_asg2, E_nm, E_nilG, E_consG, E_obind, E_tupG2, E_tupG3, E_tupG4, E_par, E_par1, E_app, E_ifOwnS, E_app1, E_app1x, E_app20, E_app2, E_setIx, E_SI1, E_SI2, E_SI3, E_SI4, E_for, E_for1, E_for1x, E_items, E_items1, E_itL, E_itS, E_itT, E_rng1, E_rng11, E_rng2, E_rng21, E_lc, E_lc1, E_lc1x, E_lc2, E_runF, E_runr, E_runn, E_runx, E_runN, E_runNr, E_runH, E_runHr, E_runHn, E_runH2, E_raise1, E_R1, E_raise2, E_R2, E_R22, E_raise0, E_try, E_try1, E_tryr, E_tryx, E_try2, E_try2f, E_beh, E_behr, E_behb, E_behc, E_sl, E_sl1, E_sl2, E_sl3, E_sl3t, E_oN, E_oS, E_oS1, E_ch, E_ch1, E_ch2, E_ch3t, E_ch3f, E_ch4, E_enum, E_enum1, E_zip, E_zip1, E_zip1t, E_add, E_sub, E_neg, E_lt, E_le, E_gt, E_ge, E_eq, E_ne, E_mod, E_trI, E_trB, E_trN, E_trL, E_trT, E_lenL, E_lenT, E_lenS, E_listS, E_intB, E_intI, E_abs, E_listL, E_listT, E_tupleL, E_tupleT, E_dTup0, E_dTup1, E_dTup2, E_dTup3, E_dTup4, E_dTup5, E_dTup6, E_dTup7, E_dTup8, E_dTup9, E_dTup10, E_dTup11, E_dTup12, E_dLst0, E_dLst1, E_dLst2, E_dLst3, E_dLst4, E_dLst5, E_dLst6, E_dLst7, E_dLst8, E_dLst9, E_dLst10, E_dLst11, E_dLst12, E_gcd, E_isNnon, E_notN, E_isB, E_notB, E_ixL, E_ixT, E_at0, E_at1, E_at2, E_at3, E_at4, E_at5, E_isi_int_N, E_isi_int_B, E_isi_int_I, E_isi_int_S, E_isi_int_T, E_isi_int_L, E_isi_int_C, E_isi_bool_N, E_isi_bool_B, E_isi_bool_I, E_isi_bool_S, E_isi_bool_T, E_isi_bool_L, E_isi_bool_C, E_isi_str_N, E_isi_str_B, E_isi_str_I, E_isi_str_S, E_isi_str_T, E_isi_str_L, E_isi_str_C, E_isi_list_N, E_isi_list_B, E_isi_list_I, E_isi_list_S, E_isi_list_T, E_isi_list_L, E_isi_list_C, E_isi_tuple_N, E_isi_tuple_B, E_isi_tuple_I, E_isi_tuple_S, E_isi_tuple_T, E_isi_tuple_L, E_isi_tuple_C, E_isi2_N, E_isi2_B, E_isi2_I, E_isi2_S, E_isi2_T, E_isi2_L, E_isi2_C, E_isN_B, E_notN_B, E_isN_I, E_notN_I, E_isN_S, E_notN_S, E_isN_T, E_notN_T, E_isN_L, E_notN_L, E_isN_C, E_notN_C, E_isa1, E_isa2, E_lk1, E_xf, E_fam, E_mul, E_fdiv, E_ixN, E_decT, E_decF, List.getElem?_cons_zero, List.getElem?_cons_succ, List.set_cons_zero, List.set_cons_succ, List.length_cons, List.length_nil, List.length_map, List.append_nil, List.cons_append, List.nil_append, entry, List.map_cons, List.map_nil, List.replicate_succ, List.replicate_zero, Nat.reduceAdd, Nat.reduceSub, Nat.reduceLT, Nat.reduceLeDiff, Nat.reduceEqDiff, Nat.zero_add, ↓reduceIte, decide_true, decide_false, Bool.not_true, Bool.not_false, eq_self, ne_eq, not_true_eq_false, not_false_eq_true, Int.reduceEq, Int.reduceToNat, Int.toNat_natCast, Int.reduceNe, Int.reduceLT, Int.reduceLE, Int.reduceNeg, Nat.reduceLeDiff, if_true, if_false, decide_not, Bool.true_and, Bool.and_true, Bool.false_and, Bool.and_false, Bool.not_not, reduceCtorEq, h3, h4, h5] <;> rfl)
  · by_cases hu : x < u
    · refine ⟨false, ?_, fun ρ h3 h4 h5 => ?_⟩
      · unfold f_is_whole m_is_whole
        (simp (disch := first | omega | assumption | (simp only [List.length_cons, List.length_nil, List.length_map, List.length_append, List.length_set]; omega)) only [E_c, E_var, E_own, E_bin, E_bin1, E_bin1x, E_bin2, E_bin2x, E_opt, E_un, E_un1, E_un1x, E_nil, E_cons, E_cons1, E_cons1x, E_cons2, E_cons2x, E_aF, E_tB, E_fB, E_fBx, E_tT, E_fT, E_fTx, E_selt, E_self, E_if, E_ifx, E_rOk, E_tAnd, E_tOr, E_tNot, E_fNotR, E_fNotRx, E_and, E_and1, E_and1x, E_or, E_or1, E_or1x, E_not, E_not1, E_not1x, E_eIf, E_selT, E_call, E_call1, E_call1x, E_to, E_tox, E_callN, E_callN1, E_toN, E_callH, E_ifOwn, E_callH1, E_callH2, E_toH, E_ixO, E_ixO1, E_ixO2, E_move, E_move1, E_ownA, E_ownA1, E_ownV, E_varV, E_seq, E_then, E_thenr, E_thenx, E_thenb, E_thenc, E_seqN, E_thenN, E_next, E_brk, E_ct, E_expr, E_expr1, E_expr1x, E_set, E_set1, E_set1x, E_ret, E_ret1, E_ret1x, E_retN, E_ifS, E_ifS1, E_ifS1x, E_asg, E_asg1, E_asg1x, E_asg2, E_nm, E_nilG, E_consG, E_obind, E_tupG2, E_tupG3, E_tupG4, E_par, E_par1, E_app, E_ifOwnS, E_app1, E_app1x, E_app20, E_app2, E_setIx, E_SI1, E_SI2, E_SI3, E_SI4, E_for, E_for1, E_for1x, E_items, E_items1, E_itL, E_itS, E_itT, E_rng1, E_rng11, E_rng2, E_rng21, E_lc, E_lc1, E_lc1x, E_lc2, E_runF, E_runr, E_runn, E_runx, E_runN, E_runNr, E_runH, E_runHr, E_runHn, E_runH2, E_raise1, E_R1, E_raise2, E_R2, E_R22, E_raise0, E_try, E_try1, E_tryr, E_tryx, E_try2, E_try2f, E_beh, E_behr, E_behb, E_behc, E_sl, E_sl1, E_sl2, E_sl3, E_sl3t, E_oN, E_oS, E_oS1, E_ch, E_ch1, E_ch2, E_ch3t, E_ch3f, E_ch4, E_enum, E_enum1, E_zip, E_zip1, E_zip1t, E_add, E_sub, E_neg, E_lt, E_le, E_gt, E_ge, E_eq, E_ne, E_mod, E_trI, E_trB, E_trN, E_trL, E_trT, E_lenL, E_lenT, E_lenS, E_listS, E_intB, E_intI, E_abs, E_listL, E_listT, E_tupleL, E_tupleT, E_dTup0, E_dTup1, E_dTup2, E_dTup3, E_dTup4, E_dTup5, E_dTup6, E_dTup7, E_dTup8, E_dTup9, E_dTup10, E_dTup11, E_dTup12, E_dLst0, E_dLst1, E_dLst2, E_dLst3, E_dLst4, E_dLst5, E_dLst6, E_dLst7, E_dLst8, E_dLst9, E_dLst10, E_dLst11, E_dLst12, E_gcd, E_isNnon, E_notN, E_isB, E_notB, E_ixL, E_ixT, E_at0, E_at1, E_at2, E_at3, E_at4, E_at5, E_isi_int_N, E_isi_int_B, E_isi_int_I, E_isi_int_S, E_isi_int_T, E_isi_int_L, E_isi_int_C, E_isi_bool_N, E_isi_bool_B, E_isi_bool_I, E_isi_bool_S, E_isi_bool_T, E_isi_bool_L, E_isi_bool_C, E_isi_str_N, E_isi_str_B, E_isi_str_I, E_isi_str_S, E_isi_str_T, E_isi_str_L, E_isi_str_C, E_isi_list_N, E_isi_list_B, E_isi_list_I, E_isi_list_S, E_isi_list_T, E_isi_list_L, E_isi_list_C, E_isi_tuple_N, E_isi_tuple_B, E_isi_tuple_I, E_isi_tuple_S, E_isi_tuple_T, E_isi_tuple_L, E_isi_tuple_C, E_isi2_N, E_isi2_B, E_isi2_I, E_isi2_S, E_isi2_T, E_isi2_L, E_isi2_C, E_isN_B, E_notN_B, E_isN_I, E_notN_I, E_isN_S, E_notN_S, E_isN_T, E_notN_T, E_isN_L, E_notN_L, E_isN_C, E_notN_C, E_isa1, E_isa2, E_lk1, E_xf, E_fam, E_mul, E_fdiv, E_ixN, E_decT, E_decF, List.getElem?_cons_zero, List.getElem?_cons_succ, List.set_cons_zero, List.set_cons_succ, List.length_cons, List.length_nil, List.length_map, List.append_nil, List.cons_append, List.nil_append, entry, List.map_cons, List.map_nil, List.replicate_succ, List.replicate_zero, Nat.reduceAdd, Nat.reduceSub, Nat.reduceLT, Nat.reduceLeDiff, Nat.reduceEqDiff, Nat.zero_add, ↓reduceIte, decide_true, decide_false, Bool.not_true, Bool.not_false, eq_self, ne_eq, not_true_eq_false, not_false_eq_true, Int.reduceEq, Int.reduceToNat, Int.toNat_natCast, Int.reduceNe, Int.reduceLT, Int.reduceLE, Int.reduceNeg, Nat.reduceLeDiff, if_true, if_false, decide_not, Bool.true_and, Bool.and_true, Bool.false_and, Bool.and_false, Bool.not_not, reduceCtorEq] <;> rfl)
      · (simp (disch := first | omega | assumption | (simp only [List.length_cons, List.length_nil, List.length_map, List.length_append, List.length_set]; omega)) only [E_c, E_var, E_own, E_bin, E_bin1, E_bin1x, E_bin2, E_bin2x, E_opt, E_un, E_un1, E_un1x, E_nil, E_cons, E_cons1, E_cons1x, E_cons2, E_cons2x, E_aF, E_tB, E_fB, E_fBx, E_tT, E_fT, E_fTx, E_selt, E_self, E_if, E_ifx, E_rOk, E_tAnd, E_tOr, E_tNot, E_fNotR, E_fNotRx, E_and, E_and1, E_and1x, E_or, E_or1, E_or1x, E_not, E_not1, E_not1x, E_eIf, E_selT, E_call, E_call1, E_call1x, E_to, E_tox, E_callN, E_callN1, E_toN, E_callH, E_ifOwn, E_callH1, E_callH2, E_toH, E_ixO, E_ixO1, E_ixO2, E_move, E_move1, E_ownA, E_ownA1, E_ownV, E_varV, E_seq, E_then, E_thenr, E_thenx, E_thenb, E_thenc, E_seqN, E_thenN, E_next, E_brk, E_ct, E_expr, E_expr1, E_expr1x, E_set, E_set1, E_set1x, E_ret, E_ret1, E_ret1x, E_retN, E_ifS, E_ifS1, E_ifS1x, E_asg, E_asg1, E_asg1x, E_asg2, E_nm, E_nilG, E_consG, E_obind, E_tupG2, E_tupG3, E_tupG4, E_par, E_par1, E_app, E_ifOwnS, E_app1, E_app1x, E_app20, E_app2, E_setIx, E_SI1, E_SI2, E_SI3, E_SI4, E_for, E_for1, E_for1x, E_items, E_items1, E_itL, E_itS, E_itT, E_rng1, E_rng11, E_rng2, E_rng21, E_lc, E_lc1, E_lc1x, E_lc2, E_runF, E_runr, E_runn, E_runx, E_runN, E_runNr, E_runH, E_runHr, E_runHn, E_runH2, E_raise1, E_R1, E_raise2, E_R2, E_R22, E_raise0, E_try, E_try1, E_tryr, E_tryx, E_try2, E_try2f, E_beh, E_behr, E_behb, E_behc, E_sl, E_sl1, E_sl2, E_sl3, E_sl3t, E_oN, E_oS, E_oS1, E_ch, E_ch1, E_ch2, E_ch3t, E_ch3f, E_ch4, E_enum, E_enum1, E_zip, E_zip1, E_zip1t, E_add, E_sub, E_neg, E_lt, E_le, E_gt, E_ge, E_eq, E_ne, E_mod, E_trI, E_trB, E_trN, E_trL, E_trT, E_lenL, E_lenT, E_lenS, E_listS, E_intB, E_intI, E_abs, E_listL, E_listT, E_tupleL, E_tupleT, E_dTup0, E_dTup1, E_dTup2, E_dTup3, E_dTup4, E_dTup5, E_dTup6, E_dTup7, E_dTup8, E_dTup9, E_dTup10, E_dTup11, E_dTup12, E_dLst0, E_dLst1, E_dLst2, E_dLst3, E_dLst4, E_dLst5, E_dLst6, E_dLst7, E_dLst8, E_dLst9, E_dLst10, E_dLst11, E_dLst12, E_gcd, E_isNnon, E_notN, E_isB, E_notB, E_ixL, E_ixT, E_at0, E_at1, E_at2, E_at3, E_at4, E_at5, E_isi_int_N, E_isi_int_B, E_isi_int_I, E_isi_int_S, E_isi_int_T, E_isi_int_L, E_isi_int_C, E_isi_bool_N, E_isi_bool_B, E_isi_bool_I, E_isi_bool_S, E_isi_bool_T, E_isi_bool_L, E_isi_bool_C, E_isi_str_N, E_isi_str_B, E_isi_str_I, E_isi_str_S, E_isi_str_T, E_isi_str_L, E_isi_str_C, E_isi_list_N, E_isi_list_B, E_isi_list_I, E_isi_list_S, E_isi_list_T, E_isi_list_L, E_isi_list_C, E_isi_tuple_N, E_isi_tuple_B, E_isi_tuple_I, E_isi_tuple_S, E_isi_tuple_T, E_isi_tuple_L, E_isi_tuple_C, E_isi2_N, E_isi2_B, E_isi2_I, E_isi2_S, E_isi2_T, E_isi2_L, E_isi2_C, E_isN_B, E_notN_B, E_isN_I, E_notN_I, E_isN_S, E_notN_S, E_isN_T, E_notN_T, E_isN_L, E_notN_L, E_isN_C, E_notN_C, E_isa1, E_isa2, E_lk1, E_xf, E_fam, E_mul, E_fdiv, E_ixN, E_decT, E_decF, List.getElem?_cons_zero, List.getElem?_cons_succ, List.set_cons_zero, List.set_cons_succ, List.length_cons, List.length_nil, List.length_map, List.append_nil, List.cons_append, List.nil_append, entry, List.map_cons, List.map_nil, List.replicate_succ, List.replicate_zero, Nat.reduceAdd, Nat.reduceSub, Nat.reduceLT, Nat.reduceLeDiff, Nat.reduceEqDiff, Nat.zero_add, ↓reduceIte, decide_true, decide_false, Bool.not_true, Bool.not_false, eq_self, ne_eq, not_true_eq_false, not_false_eq_true, Int.reduceEq, Int.reduceToNat, Int.toNat_natCast, Int.reduceNe, Int.reduceLT, Int.reduceLE, Int.reduceNeg, Nat.reduceLeDiff, if_true, if_false, decide_not, Bool.true_and, Bool.and_true, Bool.false_and, Bool.and_false, Bool.not_not, reduceCtorEq, h3, h4, h5] <;> rfl)
    · refine ⟨true, ?_, fun ρ h3 h4 h5 => ?_⟩
      · unfold f_is_whole m_is_whole
        (simp (disch := first | omega | assumption | (simp only [List.length_cons, List.length_nil, List.length_map, List.length_append, List.length_set]; omega)) only [E_c, E_var, E_own, E_bin, E_bin1, E_bin1x, E_bin2, E_bin2x, E_opt, E_un, E_un1, E_un1x, E_nil, E_cons, E_cons1, E_cons1x, E_cons2, E_cons2x, E_aF, E_tB, E_fB, E_fBx, E_tT, E_fT, E_fTx, E_selt, E_self, E_if, E_ifx, E_rOk, E_tAnd, E_tOr, E_tNot, E_fNotR, E_fNotRx, E_and, E_and1, E_and1x, E_or, E_or1, E_or1x, E_not, E_not1, E_not1x, E_eIf, E_selT, E_call, E_call1, E_call1x, E_to, E_tox, E_callN, E_callN1, E_toN, E_callH, E_ifOwn, E_callH1, E_callH2, E_toH, E_ixO, E_ixO1, E_ixO2, E_move, E_move1, E_ownA, E_ownA1, E_ownV, E_varV, E_seq, E_then, E_thenr, E_thenx, E_thenb, E_thenc, E_seqN, E_thenN, E_next, E_brk, E_ct, E_expr, E_expr1, E_expr1x, E_set, E_set1, E_set1x, E_ret, E_ret1, E_ret1x, E_retN, E_ifS, E_ifS1, E_ifS1x, E_asg, E_asg1, E_asg1x, E_asg2, E_nm, E_nilG, E_consG, E_obind, E_tupG2, E_tupG3, E_tupG4, E_par, E_par1, E_app, E_ifOwnS, E_app1, E_app1x, E_app20, E_app2, E_setIx, E_SI1, E_SI2, E_SI3, E_SI4, E_for, E_for1, E_for1x, E_items, E_items1, E_itL, E_itS, E_itT, E_rng1, E_rng11, E_rng2, E_rng21, E_lc, E_lc1, E_lc1x, E_lc2, E_runF, E_runr, E_runn, E_runx, E_runN, E_runNr, E_runH, E_runHr, E_runHn, E_runH2, E_raise1, E_R1, E_raise2, E_R2, E_R22, E_raise0, E_try, E_try1, E_tryr, E_tryx, E_try2, E_try2f, E_beh, E_behr, E_behb, E_behc, E_sl, E_sl1, E_sl2, E_sl3, E_sl3t, E_oN, E_oS, E_oS1, E_ch, E_ch1, E_ch2, E_ch3t, E_ch3f, E_ch4, E_enum, E_enum1, E_zip, E_zip1, E_zip1t, E_add, E_sub, E_neg, E_lt, E_le, E_gt, E_ge, E_eq, E_ne, E_mod, E_trI, E_trB, E_trN, E_trL, E_trT, E_lenL, E_lenT, E_lenS, E_listS, E_intB, E_intI, E_abs, E_listL, E_listT, E_tupleL, E_tupleT, E_dTup0, E_dTup1, E_dTup2, E_dTup3, E_dTup4, E_dTup5, E_dTup6, E_dTup7, E_dTup8, E_dTup9, E_dTup10, E_dTup11, E_dTup12, E_dLst0, E_dLst1, E_dLst2, E_dLst3, E_dLst4, E_dLst5, E_dLst6, E_dLst7, E_dLst8, E_dLst9, E_dLst10, E_dLst11, E_dLst12, E_gcd, E_isNnon, E_notN, E_isB, E_notB, E_ixL, E_ixT, E_at0, E_at1, E_at2, E_at3, E_at4, E_at5, E_isi_int_N, E_isi_int_B, E_isi_int_I, E_isi_int_S, E_isi_int_T, E_isi_int_L, E_isi_int_C, E_isi_bool_N, E_isi_bool_B, E_isi_bool_I, E_isi_bool_S, E_isi_bool_T, E_isi_bool_L, E_isi_bool_C, E_isi_str_N, E_isi_str_B, E_isi_str_I, E_isi_str_S, E_isi_str_T, E_isi_str_L, E_isi_str_C, E_isi_list_N, E_isi_list_B, E_isi_list_I, E_isi_list_S, E_isi_list_T, E_isi_list_L, E_isi_list_C, E_isi_tuple_N, E_isi_tuple_B, E_isi_tuple_I, E_isi_tuple_S, E_isi_tuple_T, E_isi_tuple_L, E_isi_tuple_C, E_isi2_N, E_isi2_B, E_isi2_I, E_isi2_S, E_isi2_T, E_isi2_L, E_isi2_C, E_isN_B, E_notN_B, E_isN_I, E_notN_I, E_isN_S, E_notN_S, E_isN_T, E_notN_T, E_isN_L, E_notN_L, E_isN_C, E_notN_C, E_isa1, E_isa2, E_lk1, E_xf, E_fam, E_mul, E_fdiv, E_ixN, E_decT, E_decF, List.getElem?_cons_zero, List.getElem?_cons_succ, List.set_cons_zero, List.set_cons_succ, List.length_cons, List.length_nil, List.length_map, List.append_nil, List.cons_append, List.nil_append, entry, List.map_cons, List.map_nil, List.replicate_succ, List.replicate_zero, Nat.reduceAdd, Nat.reduceSub, Nat.reduceLT, Nat.reduceLeDiff, Nat.reduceEqDiff, Nat.zero_add, ↓reduceIte, decide_true, decide_false, Bool.not_true, Bool.not_false, eq_self, ne_eq, not_true_eq_false, not_false_eq_true, Int.reduceEq, Int.reduceToNat, Int.toNat_natCast, Int.reduceNe, Int.reduceLT, Int.reduceLE, Int.reduceNeg, Nat.reduceLeDiff, if_true, if_false, decide_not, Bool.true_and, Bool.and_true, Bool.false_and, Bool.and_false, Bool.not_not, reduceCtorEq] <;> rfl)
      · (simp (disch := first | omega | assumption | (simp only [List.length_cons, List.length_nil, List.length_map, List.length_append, List.length_set]; omega)) only [E_c, E_var, E_own, E_bin, E_bin1, E_bin1x, E_bin2, E_bin2x, E_opt, E_un, E_un1, E_un1x, E_nil, E_cons, E_cons1, E_cons1x, E_cons2, E_cons2x, E_aF, E_tB, E_fB, E_fBx, E_tT, E_fT, E_fTx, E_selt, E_self, E_if, E_ifx, E_rOk, E_tAnd, E_tOr, E_tNot, E_fNotR, E_fNotRx, E_and, E_and1, E_and1x, E_or, E_or1, E_or1x, E_not, E_not1, E_not1x, E_eIf, E_selT, E_call, E_call1, E_call1x, E_to, E_tox, E_callN, E_callN1, E_toN, E_callH, E_ifOwn, E_callH1, E_callH2, E_toH, E_ixO, E_ixO1, E_ixO2, E_move, E_move1, E_ownA, E_ownA1, E_ownV, E_varV, E_seq, E_then, E_thenr, E_thenx, E_thenb, E_thenc, E_seqN, E_thenN, E_next, E_brk, E_ct, E_expr, E_expr1, E_expr1x, E_set, E_set1, E_set1x, E_ret, E_ret1, E_ret1x, E_retN, E_ifS, E_ifS1, E_ifS1x, E_asg, E_asg1, E_asg1x, E_asg2, E_nm, E_nilG, E_consG, E_obind, E_tupG2, E_tupG3, E_tupG4, E_par, E_par1, E_app, E_ifOwnS, E_app1, E_app1x, E_app20, E_app2, E_setIx, E_SI1, E_SI2, E_SI3, E_SI4, E_for, E_for1, E_for1x, E_items, E_items1, E_itL, E_itS, E_itT, E_rng1, E_rng11, E_rng2, E_rng21, E_lc, E_lc1, E_lc1x, E_lc2, E_runF, E_runr, E_runn, E_runx, E_runN, E_runNr, E_runH, E_runHr, E_runHn, E_runH2, E_raise1, E_R1, E_raise2, E_R2, E_R22, E_raise0, E_try, E_try1, E_tryr, E_tryx, E_try2, E_try2f, E_beh, E_behr, E_behb, E_behc, E_sl, E_sl1, E_sl2, E_sl3, E_sl3t, E_oN, E_oS, E_oS1, E_ch, E_ch1, E_ch2, E_ch3t, E_ch3f, E_ch4, E_enum, E_enum1, E_zip, E_zip1, E_zip1t, E_add, E_sub, E_neg, E_lt, E_le, E_gt, E_ge, E_eq, E_ne, E_mod, E_trI, E_trB, E_trN, E_trL, E_trT, E_lenL, E_lenT, E_lenS, E_listS, E_intB, E_intI, E_abs, E_listL, E_listT, E_tupleL, E_tupleT, E_dTup0, E_dTup1, E_dTup2, E_dTup3, E_dTup4, E_dTup5, E_dTup6, E_dTup7, E_dTup8, E_dTup9, E_dTup10, E_dTup11, E_dTup12, E_dLst0, E_dLst1, E_dLst2, E_dLst3, E_dLst4, E_dLst5, E_dLst6, E_dLst7, E_dLst8, E_dLst9, E_dLst10, E_dLst11, E_dLst12, E_gcd, E_isNnon, E_notN, E_isB, E_notB, E_ixL, E_ixT, E_at0, E_at1, E_at2, E_at3, E_at4, E_at5, E_isi_int_N, E_isi_int_B, E_isi_int_I, E_isi_int_S, E_isi_int_T, E_isi_int_L, E_isi_int_C, E_isi_bool_N, E_isi_bool_B, E_isi_bool_I, E_isi_bool_S, E_isi_bool_T, E_isi_bool_L, E_isi_bool_C, E_isi_str_N, E_isi_str_B, E_isi_str_I, E_isi_str_S, E_isi_str_T, E_isi_str_L, E_isi_str_C, E_isi_list_N, E_isi_list_B, E_isi_list_I, E_isi_list_S, E_isi_list_T, E_isi_list_L, E_isi_list_C, E_isi_tuple_N, E_isi_tuple_B, E_isi_tuple_I, E_isi_tuple_S, E_isi_tuple_T, E_isi_tuple_L, E_isi_tuple_C, E_isi2_N, E_isi2_B, E_isi2_I, E_isi2_S, E_isi2_T, E_isi2_L, E_isi2_C, E_isN_B, E_notN_B, E_isN_I, E_notN_I, E_isN_S, E_notN_S, E_isN_T, E_notN_T, E_isN_L, E_notN_L, E_isN_C, E_notN_C, E_isa1, E_isa2, E_lk1, E_xf, E_fam, E_mul, E_fdiv, E_ixN, E_decT, E_decF, List.getElem?_cons_zero, List.getElem?_cons_succ, List.set_cons_zero, List.set_cons_succ, List.length_cons, List.length_nil, List.length_map, List.append_nil, List.cons_append, List.nil_append, entry, List.map_cons, List.map_nil, List.replicate_succ, List.replicate_zero, Nat.reduceAdd, Nat.reduceSub, Nat.reduceLT, Nat.reduceLeDiff, Nat.reduceEqDiff, Nat.zero_add, ↓reduceIte, decide_true, decide_false, Bool.not_true, Bool.not_false, eq_self, ne_eq, not_true_eq_false, not_false_eq_true, Int.reduceEq, Int.reduceToNat, Int.toNat_natCast, Int.reduceNe, Int.reduceLT, Int.reduceLE, Int.reduceNeg, Nat.reduceLeDiff, if_true, if_false, decide_not, Bool.true_and, Bool.and_true, Bool.false_and, Bool.and_false, Bool.not_not, reduceCtorEq, h3, h4, h5] <;> rfl)
  · by_cases hu : x < u
    · refine ⟨false, ?_, fun ρ h3 h4 h5 => ?_⟩
      · unfold f_is_whole m_is_whole
        (simp (disch := first | omega | assumption | (simp only [List.length_cons, List.length_nil, List.length_map, List.length_append, List.length_set]; omega)) only [E_c, E_var, E_own, E_bin, E_bin1, E_bin1x, E_bin2, E_bin2x, E_opt, E_un, E_un1, E_un1x, E_nil, E_cons, E_cons1, E_cons1x, E_cons2, E_cons2x, E_aF, E_tB, E_fB, E_fBx, E_tT, E_fT, E_fTx, E_selt, E_self, E_if, E_ifx, E_rOk, E_tAnd, E_tOr, E_tNot, E_fNotR, E_fNotRx, E_and, E_and1, E_and1x, E_or, E_or1, E_or1x, E_not, E_not1, E_not1x, E_eIf, E_selT, E_call, E_call1, E_call1x, E_to, E_tox, E_callN, E_callN1, E_toN, E_callH, E_ifOwn, E_callH1, E_callH2, E_toH, E_ixO, E_ixO1, E_ixO2, E_move, E_move1, E_ownA, E_ownA1, E_ownV, E_varV, E_seq, E_then, E_thenr, E_thenx, E_thenb, E_thenc, E_seqN, E_thenN, E_next, E_brk, E_ct, E_expr, E_expr1, E_expr1x, E_set, E_set1, E_set1x, E_ret, E_ret1, E_ret1x, E_retN, E_ifS, E_ifS1, E_ifS1x, E_asg, E_asg1, E_asg1x, E_asg2, E_nm, E_nilG, E_consG, E_obind, E_tupG2, E_tupG3, E_tupG4, E_par, E_par1, E_app, E_ifOwnS, E_app1, E_app1x, E_app20, E_app2, E_setIx, E_SI1, E_SI2, E_SI3, E_SI4, E_for, E_for1, E_for1x, E_items, E_items1, E_itL, E_itS, E_itT, E_rng1, E_rng11, E_rng2, E_rng21, E_lc, E_lc1, E_lc1x, E_lc2, E_runF, E_runr, E_runn, E_runx, E_runN, E_runNr, E_runH, E_runHr, E_runHn, E_runH2, E_raise1, E_R1, E_raise2, E_R2, E_R22, E_raise0, E_try, E_try1, E_tryr, E_tryx, E_try2, E_try2f, E_beh, E_behr, E_behb, E_behc, E_sl, E_sl1, E_sl2, E_sl3, E_sl3t, E_oN, E_oS, E_oS1, E_ch, E_ch1, E_ch2, E_ch3t, E_ch3f, E_ch4, E_enum, E_enum1, E_zip, E_zip1, E_zip1t, E_add, E_sub, E_neg, E_lt, E_le, E_gt, E_ge, E_eq, E_ne, E_mod, E_trI, E_trB, E_trN, E_trL, E_trT, E_lenL, E_lenT, E_lenS, E_listS, E_intB, E_intI, E_abs, E_listL, E_listT, E_tupleL, E_tupleT, E_dTup0, E_dTup1, E_dTup2, E_dTup3, E_dTup4, E_dTup5, E_dTup6, E_dTup7, E_dTup8, E_dTup9, E_dTup10, E_dTup11, E_dTup12, E_dLst0, E_dLst1, E_dLst2, E_dLst3, E_dLst4, E_dLst5, E_dLst6, E_dLst7, E_dLst8, E_dLst9, E_dLst10, E_dLst11, E_dLst12, E_gcd, E_isNnon, E_notN, E_isB, E_notB, E_ixL, E_ixT, E_at0, E_at1, E_at2, E_at3, E_at4, E_at5, E_isi_int_N, E_isi_int_B, E_isi_int_I, E_isi_int_S, E_isi_int_T, E_isi_int_L, E_isi_int_C, E_isi_bool_N, E_isi_bool_B, E_isi_bool_I, E_isi_bool_S, E_isi_bool_T, E_isi_bool_L, E_isi_bool_C, E_isi_str_N, E_isi_str_B, E_isi_str_I, E_isi_str_S, E_isi_str_T, E_isi_str_L, E_isi_str_C, E_isi_list_N, E_isi_list_B, E_isi_list_I, E_isi_list_S, E_isi_list_T, E_isi_list_L, E_isi_list_C, E_isi_tuple_N, E_isi_tuple_B, E_isi_tuple_I, E_isi_tuple_S, E_isi_tuple_T, E_isi_tuple_L, E_isi_tuple_C, E_isi2_N, E_isi2_B, E_isi2_I, E_isi2_S, E_isi2_T, E_isi2_L, E_isi2_C, E_isN_B, E_notN_B, E_isN_I, E_notN_I, E_isN_S, E_notN_S, E_isN_T, E_notN_T, E_isN_L, E_notN_L, E_isN_C, E_notN_C, E_isa1, E_isa2, E_lk1, E_xf, E_fam, E_mul, E_fdiv, E_ixN, E_decT, E_decF, List.getElem?_cons_zero, List.getElem?_cons_succ, List.set_cons_zero, List.set_cons_succ, List.length_cons, List.length_nil, List.length_map, List.append_nil, List.cons_append, List.nil_append, entry, List.map_cons, List.map_nil, List.replicate_succ, List.replicate_zero, Nat.reduceAdd, Nat.reduceSub, Nat.reduceLT, Nat.reduceLeDiff, Nat.reduceEqDiff, Nat.zero_add, ↓reduceIte, decide_true, decide_false, Bool.not_true, Bool.not_false, eq_self, ne_eq, not_true_eq_false, not_false_eq_true, Int.reduceEq, Int.reduceToNat, Int.toNat_natCast, Int.reduceNe, Int.reduceLT, Int.reduceLE, Int.reduceNeg, Nat.reduceLeDiff, if_true, if_false, decide_not, Bool.true_and, Bool.and_true, Bool.false_and, Bool.and_false, Bool.not_not, reduceCtorEq] <;> rfl)
      · (simp (disch := first | omega | assumption | (simp only [List.length_cons, List.length_nil, List.length_map, List.length_append, List.length_set]; omega)) only [E_c, E_var, E_own, E_bin, E_bin1, E_bin1x, E_bin2, E_bin2x, E_opt, E_un, E_un1, E_un1x, E_nil, E_cons, E_cons1, E_cons1x, E_cons2, E_cons2x, E_aF, E_tB, E_fB, E_fBx, E_tT, E_fT, E_fTx, E_selt, E_self, E_if, E_ifx, E_rOk, E_tAnd, E_tOr, E_tNot, E_fNotR, E_fNotRx, E_and, E_and1, E_and1x, E_or, E_or1, E_or1x, E_not, E_not1, E_not1x, E_eIf, E_selT, E_call, E_call1, E_call1x, E_to, E_tox, E_callN, E_callN1, E_toN, E_callH, E_ifOwn, E_callH1, E_callH2, E_toH, E_ixO, E_ixO1, E_ixO2, E_move, E_move1, E_ownA, E_ownA1, E_ownV, E_varV, E_seq, E_then, E_thenr, E_thenx, E_thenb, E_thenc, E_seqN, E_thenN, E_next, E_brk, E_ct, E_expr, E_expr1, E_expr1x, E_set, E_set1, E_set1x, E_ret, E_ret1, E_ret1x, E_retN, E_ifS, E_ifS1, E_ifS1x, E_asg, E_asg1, E_asg1x, E_asg2, E_nm, E_nilG, E_consG, E_obind, E_tupG2, E_tupG3, E_tupG4, E_par, E_par1, E_app, E_ifOwnS, E_app1, E_app1x, E_app20, E_app2, E_setIx, E_SI1, E_SI2, E_SI3, E_SI4, E_for, E_for1, E_for1x, E_items, E_items1, E_itL, E_itS, E_itT, E_rng1, E_rng11, E_rng2, E_rng21, E_lc, E_lc1, E_lc1x, E_lc2, E_runF, E_runr, E_runn, E_runx, E_runN, E_runNr, E_runH, E_runHr, E_runHn, E_runH2, E_raise1, E_R1, E_raise2, E_R2, E_R22, E_raise0, E_try, E_try1, E_tryr, E_tryx, E_try2, E_try2f, E_beh, E_behr, E_behb, E_behc, E_sl, E_sl1, E_sl2, E_sl3, E_sl3t, E_oN, E_oS, E_oS1, E_ch, E_ch1, E_ch2, E_ch3t, E_ch3f, E_ch4, E_enum, E_enum1, E_zip, E_zip1, E_zip1t, E_add, E_sub, E_neg, E_lt, E_le, E_gt, E_ge, E_eq, E_ne, E_mod, E_trI, E_trB, E_trN, E_trL, E_trT, E_lenL, E_lenT, E_lenS, E_listS, E_intB, E_intI, E_abs, E_listL, E_listT, E_tupleL, E_tupleT, E_dTup0, E_dTup1, E_dTup2, E_dTup3, E_dTup4, E_dTup5, E_dTup6, E_dTup7, E_dTup8, E_dTup9, E_dTup10, E_dTup11, E_dTup12, E_dLst0, E_dLst1, E_dLst2, E_dLst3, E_dLst4, E_dLst5, E_dLst6, E_dLst7, E_dLst8, E_dLst9, E_dLst10, E_dLst11, E_dLst12, E_gcd, E_isNnon, E_notN, E_isB, E_notB, E_ixL, E_ixT, E_at0, E_at1, E_at2, E_at3, E_at4, E_at5, E_isi_int_N, E_isi_int_B, E_isi_int_I, E_isi_int_S, E_isi_int_T, E_isi_int_L, E_isi_int_C, E_isi_bool_N, E_isi_bool_B, E_isi_bool_I, E_isi_bool_S, E_isi_bool_T, E_isi_bool_L, E_isi_bool_C, E_isi_str_N, E_isi_str_B, E_isi_str_I, E_isi_str_S, E_isi_str_T, E_isi_str_L, E_isi_str_C, E_isi_list_N, E_isi_list_B, E_isi_list_I, E_isi_list_S, E_isi_list_T, E_isi_list_L, E_isi_list_C, E_isi_tuple_N, E_isi_tuple_B, E_isi_tuple_I, E_isi_tuple_S, E_isi_tuple_T, E_isi_tuple_L, E_isi_tuple_C, E_isi2_N, E_isi2_B, E_isi2_I, E_isi2_S, E_isi2_T, E_isi2_L, E_isi2_C, E_isN_B, E_notN_B, E_isN_I, E_notN_I, E_isN_S, E_notN_S, E_isN_T, E_notN_T, E_isN_L, E_notN_L, E_isN_C, E_notN_C, E_isa1, E_isa2, E_lk1, E_xf, E_fam, E_mul, E_fdiv, E_ixN, E_decT, E_decF, List.getElem?_cons_zero, List.getElem?_cons_succ, List.set_cons_zero, List.set_cons_succ, List.length_cons, List.length_nil, List.length_map, List.append_nil, List.cons_append, List.nil_append, entry, List.map_cons, List.map_nil, List.replicate_succ, List.replicate_zero, Nat.reduceAdd, Nat.reduceSub, Nat.reduceLT, Nat.reduceLeDiff, Nat.reduceEqDiff, Nat.zero_add, ↓reduceIte, decide_true, decide_false, Bool.not_true, Bool.not_false, eq_self, ne_eq, not_true_eq_false, not_false_eq_true, Int.reduceEq, Int.reduceToNat, Int.toNat_natCast, Int.reduceNe, Int.reduceLT, Int.reduceLE, Int.reduceNeg, Nat.reduceLeDiff, if_true, if_false, decide_not, Bool.true_and, Bool.and_true, Bool.false_and, Bool.and_false, Bool.not_not, reduceCtorEq, h3, h4, h5] <;> rfl)
    · refine ⟨decide (x ≤ v), ?_, fun ρ h3 h4 h5 => ?_⟩
      · unfold f_is_whole m_is_whole
        (simp (disch := first | omega | assumption | (simp only [List.length_cons, List.length_nil, List.length_map, List.length_append, List.length_set]; omega)) only [E_c, E_var, E_own, E_bin, E_bin1, E_bin1x, E_bin2, E_bin2x, E_opt, E_un, E_un1, E_un1x, E_nil, E_cons, E_cons1, E_cons1x, E_cons2, E_cons2x, E_aF, E_tB, E_fB, E_fBx, E_tT, E_fT, E_fTx, E_selt, E_self, E_if, E_ifx, E_rOk, E_tAnd, E_tOr, E_tNot, E_fNotR, E_fNotRx, E_and, E_and1, E_and1x, E_or, E_or1, E_or1x, E_not, E_not1, E_not1x, E_eIf, E_selT, E_call, E_call1, E_call1x, E_to, E_tox, E_callN, E_callN1, E_toN, E_callH, E_ifOwn, E_callH1, E_callH2, E_toH, E_ixO, E_ixO1, E_ixO2, E_move, E_move1, E_ownA, E_ownA1, E_ownV, E_varV, E_seq, E_then, E_thenr, E_thenx, E_thenb, E_thenc, E_seqN, E_thenN, E_next, E_brk, E_ct, E_expr, E_expr1, E_expr1x, E_set, E_set1, E_set1x, E_ret, E_ret1, E_ret1x, E_retN, E_ifS, E_ifS1, E_ifS1x, E_asg, E_asg1, E_asg1x, E_asg2, E_nm, E_nilG, E_consG, E_obind, E_tupG2, E_tupG3, E_tupG4, E_par, E_par1, E_app, E_ifOwnS, E_app1, E_app1x, E_app20, E_app2, E_setIx, E_SI1, E_SI2, E_SI3, E_SI4, E_for, E_for1, E_for1x, E_items, E_items1, E_itL, E_itS, E_itT, E_rng1, E_rng11, E_rng2, E_rng21, E_lc, E_lc1, E_lc1x, E_lc2, E_runF, E_runr, E_runn, E_runx, E_runN, E_runNr, E_runH, E_runHr, E_runHn, E_runH2, E_raise1, E_R1, E_raise2, E_R2, E_R22, E_raise0, E_try, E_try1, E_tryr, E_tryx, E_try2, E_try2f, E_beh, E_behr, E_behb, E_behc, E_sl, E_sl1, E_sl2, E_sl3, E_sl3t, E_oN, E_oS, E_oS1, E_ch, E_ch1, E_ch2, E_ch3t, E_ch3f, E_ch4, E_enum, E_enum1, E_zip, E_zip1, E_zip1t, E_add, E_sub, E_neg, E_lt, E_le, E_gt, E_ge, E_eq, E_ne, E_mod, E_trI, E_trB, E_trN, E_trL, E_trT, E_lenL, E_lenT, E_lenS, E_listS, E_intB, E_intI, E_abs, E_listL, E_listT, E_tupleL, E_tupleT, E_dTup0, E_dTup1, E_dTup2, E_dTup3, E_dTup4, E_dTup5, E_dTup6, E_dTup7, E_dTup8, E_dTup9, E_dTup10, E_dTup11, E_dTup12, E_dLst0, E_dLst1, E_dLst2, E_dLst3, E_dLst4, E_dLst5, E_dLst6, E_dLst7, E_dLst8, E_dLst9, E_dLst10, E_dLst11, E_dLst12, E_gcd, E_isNnon, E_notN, E_isB, E_notB, E_ixL, E_ixT, E_at0, E_at1, E_at2, E_at3, E_at4, E_at5, E_isi_int_N, E_isi_int_B, E_isi_int_I, E_isi_int_S, E_isi_int_T, E_isi_int_L, E_isi_int_C, E_isi_bool_N, E_isi_bool_B, E_isi_bool_I, E_isi_bool_S, E_isi_bool_T, E_isi_bool_L, E_isi_bool_C, E_isi_str_N, E_isi_str_B, E_isi_str_I, E_isi_str_S, E_isi_str_T, E_isi_str_L, E_isi_str_C, E_isi_list_N, E_isi_list_B, E_isi_list_I, E_isi_list_S, E_isi_list_T, E_isi_list_L, E_isi_list_C, E_isi_tuple_N, E_isi_tuple_B, E_isi_tuple_I, E_isi_tuple_S, E_isi_tuple_T, E_isi_tuple_L, E_isi_tuple_C, E_isi2_N, E_isi2_B, E_isi2_I, E_isi2_S, E_isi2_T, E_isi2_L, E_isi2_C, E_isN_B, E_notN_B, E_isN_I, E_notN_I, E_isN_S, E_notN_S, E_isN_T, E_notN_T, E_isN_L, E_notN_L, E_isN_C, E_notN_C, E_isa1, E_isa2, E_lk1, E_xf, E_fam, E_mul, E_fdiv, E_ixN, E_decT, E_decF, List.getElem?_cons_zero, List.getElem?_cons_succ, List.set_cons_zero, List.set_cons_succ, List.length_cons, List.length_nil, List.length_map, List.append_nil, List.cons_append, List.nil_append, entry, List.map_cons, List.map_nil, List.replicate_succ, List.replicate_zero, Nat.reduceAdd, Nat.reduceSub, Nat.reduceLT, Nat.reduceLeDiff, Nat.reduceEqDiff, Nat.zero_add, ↓reduceIte, decide_true, decide_false, Bool.not_true, Bool.not_false, eq_self, ne_eq, not_true_eq_false, not_false_eq_true, Int.reduceEq, Int.reduceToNat, Int.toNat_natCast, Int.reduceNe, Int.reduceLT, Int.reduceLE, Int.reduceNeg, Nat.reduceLeDiff, if_true, if_false, decide_not, Bool.true_and, Bool.and_true, Bool.false_and, Bool.and_false, Bool.not_not, reduceCtorEq] <;> rfl)
      · (simp (disch := first | omega | assumption | (simp only [List.length_cons, List.length_nil, List.length_map, List.length_append, List.length_set]; omega)) only [E_c, E_var, E_own, E_bin, E_bin1, E_bin1x, E_bin2, E_bin2x, E_opt, E_un, E_un1, E_un1x, E_nil, E_cons, E_cons1, E_cons1x, E_cons2, E_cons2x, E_aF, E_tB, E_fB, E_fBx, E_tT, E_fT, E_fTx, E_selt, E_self, E_if, E_ifx, E_rOk, E_tAnd, E_tOr, E_tNot, E_fNotR, E_fNotRx, E_and, E_and1, E_and1x, E_or, E_or1, E_or1x, E_not, E_not1, E_not1x, E_eIf, E_selT, E_call, E_call1, E_call1x, E_to, E_tox, E_callN, E_callN1, E_toN, E_callH, E_ifOwn, E_callH1, E_callH2, E_toH, E_ixO, E_ixO1, E_ixO2, E_move, E_move1, E_ownA, E_ownA1, E_ownV, E_varV, E_seq, E_then, E_thenr, E_thenx, E_thenb, E_thenc, E_seqN, E_thenN, E_next, E_brk, E_ct, E_expr, E_expr1, E_expr1x, E_set, E_set1, E_set1x, E_ret, E_ret1, E_ret1x, E_retN, E_ifS, E_ifS1, E_ifS1x, E_asg, E_asg1, E_asg1x, E_asg2, E_nm, E_nilG, E_consG, E_obind, E_tupG2, E_tupG3, E_tupG4, E_par, E_par1, E_app, E_ifOwnS, E_app1, E_app1x, E_app20, E_app2, E_setIx, E_SI1, E_SI2, E_SI3, E_SI4, E_for, E_for1, E_for1x, E_items, E_items1, E_itL, E_itS, E_itT, E_rng1, E_rng11, E_rng2, E_rng21, E_lc, E_lc1, E_lc1x, E_lc2, E_runF, E_runr, E_runn, E_runx, E_runN, E_runNr, E_runH, E_runHr, E_runHn, E_runH2, E_raise1, E_R1, E_raise2, E_R2, E_R22, E_raise0, E_try, E_try1, E_tryr, E_tryx, E_try2, E_try2f, E_beh, E_behr, E_behb, E_behc, E_sl, E_sl1, E_sl2, E_sl3, E_sl3t, E_oN, E_oS, E_oS1, E_ch, E_ch1, E_ch2, E_ch3t, E_ch3f, E_ch4, E_enum, E_enum1, E_zip, E_zip1, E_zip1t, E_add, E_sub, E_neg, E_lt, E_le, E_gt, E_ge, E_eq, E_ne, E_mod, E_trI, E_trB, E_trN, E_trL, E_trT, E_lenL, E_lenT, E_lenS, E_listS, E_intB, E_intI, E_abs, E_listL, E_listT, E_tupleL, E_tupleT, E_dTup0, E_dTup1, E_dTup2, E_dTup3, E_dTup4, E_dTup5, E_dTup6, E_dTup7, E_dTup8, E_dTup9, E_dTup10, E_dTup11, E_dTup12, E_dLst0, E_dLst1, E_dLst2, E_dLst3, E_dLst4, E_dLst5, E_dLst6, E_dLst7, E_dLst8, E_dLst9, E_dLst10, E_dLst11, E_dLst12, E_gcd, E_isNnon, E_notN, E_isB, E_notB, E_ixL, E_ixT, E_at0, E_at1, E_at2, E_at3, E_at4, E_at5, E_isi_int_N, E_isi_int_B, E_isi_int_I, E_isi_int_S, E_isi_int_T, E_isi_int_L, E_isi_int_C, E_isi_bool_N, E_isi_bool_B, E_isi_bool_I, E_isi_bool_S, E_isi_bool_T, E_isi_bool_L, E_isi_bool_C, E_isi_str_N, E_isi_str_B, E_isi_str_I, E_isi_str_S, E_isi_str_T, E_isi_str_L, E_isi_str_C, E_isi_list_N, E_isi_list_B, E_isi_list_I, E_isi_list_S, E_isi_list_T, E_isi_list_L, E_isi_list_C, E_isi_tuple_N, E_isi_tuple_B, E_isi_tuple_I, E_isi_tuple_S, E_isi_tuple_T, E_isi_tuple_L, E_isi_tuple_C, E_isi2_N, E_isi2_B, E_isi2_I, E_isi2_S, E_isi2_T, E_isi2_L, E_isi2_C, E_isN_B, E_notN_B, E_isN_I, E_notN_I, E_isN_S, E_notN_S, E_isN_T, E_notN_T, E_isN_L, E_notN_L, E_isN_C, E_notN_C, E_isa1, E_isa2, E_lk1, E_xf, E_fam, E_mul, E_fdiv, E_ixN, E_decT, E_decF, List.getElem?_cons_zero, List.getElem?_cons_succ, List.set_cons_zero, List.set_cons_succ, List.length_cons, List.length_nil, List.length_map, List.append_nil, List.cons_append, List.nil_append, entry, List.map_cons, List.map_nil, List.replicate_succ, List.replicate_zero, Nat.reduceAdd, Nat.reduceSub, Nat.reduceLT, Nat.reduceLeDiff, Nat.reduceEqDiff, Nat.zero_add, ↓reduceIte, decide_true, decide_false, Bool.not_true, Bool.not_false, eq_self, ne_eq, not_true_eq_false, not_false_eq_true, Int.reduceEq, Int.reduceToNat, Int.toNat_natCast, Int.reduceNe, Int.reduceLT, Int.reduceLE, Int.reduceNeg, Nat.reduceLeDiff, if_true, if_false, decide_not, Bool.true_and, Bool.and_true, Bool.false_and, Bool.and_false, Bool.not_not, reduceCtorEq, h3, h4, h5] <;> rfl)
theorem isr_two {x y : Int} (hy : Bd 200 y) : f_is_ratio [R2 x y] = .ok (.bl (decide (1 ≤ y) && decide ((Int.gcd x y : Int) = 1))) ∧ f__law_is_due [R2 x y] = .ok (.bl (decide (1 ≤ y) && decide ((Int.gcd x y : Int) = 1))) := by
  have w : f_is_whole [.int x, .non, .non] = .ok (.bl true) := rfl
  have eg : dGcd [.int x, .int y] = some (.int (Int.gcd x y)) := rfl
  have lg := pl_gcd x y (hy.mono (by decide))
  have i1 : f__law_int [.int x] = .ok (.bl true) := rfl
  have i2 : f__law_int [.int y] = .ok (.bl true) := rfl
  by_cases h : 1 ≤ y
  · have w2 : f_is_whole [.int y, .int 1, .non] = .ok (.bl true) := by
      unfold f_is_whole m_is_whole
      (simp (disch := first | omega | assumption | (simp only [List.length_cons, List.length_nil, List.length_map, List.length_append, List.length_set]; omega)) only [E_c, E_var, E_own, E_bin, E_bin1, E_bin1x, E_bin2, E_bin2x, E_opt, E_un, E_un1, E_un1x, E_nil, E_cons, E_cons1, E_cons1x, E_cons2, E_cons2x, E_aF, E_tB, E_fB, E_fBx, E_tT, E_fT, E_fTx, E_selt, E_self, E_if, E_ifx, E_rOk, E_tAnd, E_tOr, E_tNot, E_fNotR, E_fNotRx, E_and, E_and1, E_and1x, E_or, E_or1, E_or1x, E_not, E_not1, E_not1x, E_eIf, E_selT, E_call, E_call1, E_call1x, E_to, E_tox, E_callN, E_callN1, E_toN, E_callH, E_ifOwn, E_callH1, E_callH2, E_toH, E_ixO, E_ixO1, E_ixO2, E_move, E_move1, E_ownA, E_ownA1, E_ownV, E_varV, E_seq, E_then, E_thenr, E_thenx, E_thenb, E_thenc, E_seqN, E_thenN, E_next, E_brk, E_ct, E_expr, E_expr1, E_expr1x, E_set, E_set1, E_set1x, E_ret, E_ret1, E_ret1x, E_retN, E_ifS, E_ifS1, E_ifS1x, E_asg, E_asg1, E_asg1x, E_asg2, E_nm, E_nilG, E_consG, E_obind, E_tupG2, E_tupG3, E_tupG4, E_par, E_par1, E_app, E_ifOwnS, E_app1, E_app1x, E_app20, E_app2, E_setIx, E_SI1, E_SI2, E_SI3, E_SI4, E_for, E_for1, E_for1x, E_items, E_items1, E_itL, E_itS, E_itT, E_rng1, E_rng11, E_rng2, E_rng21, E_lc, E_lc1, E_lc1x, E_lc2, E_runF, E_runr, E_runn, E_runx, E_runN, E_runNr, E_runH, E_runHr, E_runHn, E_runH2, E_raise1, E_R1, E_raise2, E_R2, E_R22, E_raise0, E_try, E_try1, E_tryr, E_tryx, E_try2, E_try2f, E_beh, E_behr, E_behb, E_behc, E_sl, E_sl1, E_sl2, E_sl3, E_sl3t, E_oN, E_oS, E_oS1, E_ch, E_ch1, E_ch2, E_ch3t, E_ch3f, E_ch4, E_enum, E_enum1, E_zip, E_zip1, E_zip1t, E_add, E_sub, E_neg, E_lt, E_le, E_gt, E_ge, E_eq, E_ne, E_mod, E_trI, E_trB, E_trN, E_trL, E_trT, E_lenL, E_lenT, E_lenS, E_listS, E_intB, E_intI, E_abs, E_listL, E_listT, E_tupleL, E_tupleT, E_dTup0, E_dTup1, E_dTup2, E_dTup3, E_dTup4, E_dTup5, E_dTup6, E_dTup7, E_dTup8, E_dTup9, E_dTup10, E_dTup11, E_dTup12, E_dLst0, E_dLst1, E_dLst2, E_dLst3, E_dLst4, E_dLst5, E_dLst6, E_dLst7, E_dLst8, E_dLst9, E_dLst10, E_dLst11, E_dLst12, E_gcd, E_isNnon, E_notN, E_isB, E_notB, E_ixL, E_ixT, E_at0, E_at1, E_at2, E_at3, E_at4, E_at5, E_isi_int_N, E_isi_int_B, E_isi_int_I, E_isi_int_S, E_isi_int_T, E_isi_int_L, E_isi_int_C, E_isi_bool_N, E_isi_bool_B, E_isi_bool_I, E_isi_bool_S, E_isi_bool_T, E_isi_bool_L, E_isi_bool_C, E_isi_str_N, E_isi_str_B, E_isi_str_I, E_isi_str_S, E_isi_str_T, E_isi_str_L, E_isi_str_C, E_isi_list_N, E_isi_list_B, E_isi_list_I, E_isi_list_S, E_isi_list_T, E_isi_list_L, E_isi_list_C, E_isi_tuple_N, E_isi_tuple_B, E_isi_tuple_I, E_isi_tuple_S, E_isi_tuple_T, E_isi_tuple_L, E_isi_tuple_C, E_isi2_N, E_isi2_B, E_isi2_I, E_isi2_S, E_isi2_T, E_isi2_L, E_isi2_C, E_isN_B, E_notN_B, E_isN_I, E_notN_I, E_isN_S, E_notN_S, E_isN_T, E_notN_T, E_isN_L, E_notN_L, E_isN_C, E_notN_C, E_isa1, E_isa2, E_lk1, E_xf, E_fam, E_mul, E_fdiv, E_ixN, E_decT, E_decF, List.getElem?_cons_zero, List.getElem?_cons_succ, List.set_cons_zero, List.set_cons_succ, List.length_cons, List.length_nil, List.length_map, List.append_nil, List.cons_append, List.nil_append, entry, List.map_cons, List.map_nil, List.replicate_succ, List.replicate_zero, Nat.reduceAdd, Nat.reduceSub, Nat.reduceLT, Nat.reduceLeDiff, Nat.reduceEqDiff, Nat.zero_add, ↓reduceIte, decide_true, decide_false, Bool.not_true, Bool.not_false, eq_self, ne_eq, not_true_eq_false, not_false_eq_true, Int.reduceEq, Int.reduceToNat, Int.toNat_natCast, Int.reduceNe, Int.reduceLT, Int.reduceLE, Int.reduceNeg, Nat.reduceLeDiff, if_true, if_false, decide_not, Bool.true_and, Bool.and_true, Bool.false_and, Bool.and_false, Bool.not_not, reduceCtorEq] <;> rfl)
    have e : (decide (1 ≤ y) && decide ((Int.gcd x y : Int) = 1)) = decide ((Int.gcd x y : Int) = 1) := by rw [decide_eq_true h, Bool.true_and]
    rw [e]
    constructor
    · unfold f_is_ratio m_is_ratio
      (simp (disch := first | omega | assumption | (simp only [List.length_cons, List.length_nil, List.length_map, List.length_append, List.length_set]; omega)) only [E_c, E_var, E_own, E_bin, E_bin1, E_bin1x, E_bin2, E_bin2x, E_opt, E_un, E_un1, E_un1x, E_nil, E_cons, E_cons1, E_cons1x, E_cons2, E_cons2x, E_aF, E_tB, E_fB, E_fBx, E_tT, E_fT, E_fTx, E_selt, E_self, E_if, E_ifx, E_rOk, E_tAnd, E_tOr, E_tNot, E_fNotR, E_fNotRx, E_and, E_and1, E_and1x, E_or, E_or1, E_or1x, E_not, E_not1, E_not1x, E_eIf, E_selT, E_call, E_call1, E_call1x, E_to, E_tox, E_callN, E_callN1, E_toN, E_callH, E_ifOwn, E_callH1, E_callH2, E_toH, E_ixO, E_ixO1, E_ixO2, E_move, E_move1, E_ownA, E_ownA1, E_ownV, E_varV, E_seq, E_then, E_thenr, E_thenx, E_thenb, E_thenc, E_seqN, E_thenN, E_next, E_brk, E_ct, E_expr, E_expr1, E_expr1x, E_set, E_set1, E_set1x, E_ret, E_ret1, E_ret1x, E_retN, E_ifS, E_ifS1, E_ifS1x, E_asg, E_asg1, E_asg1x, E_asg2, E_nm, E_nilG, E_consG, E_obind, E_tupG2, E_tupG3, E_tupG4, E_par, E_par1, E_app, E_ifOwnS, E_app1, E_app1x, E_app20, E_app2, E_setIx, E_SI1, E_SI2, E_SI3, E_SI4, E_for, E_for1, E_for1x, E_items, E_items1, E_itL, E_itS, E_itT, E_rng1, E_rng11, E_rng2, E_rng21, E_lc, E_lc1, E_lc1x, E_lc2, E_runF, E_runr, E_runn, E_runx, E_runN, E_runNr, E_runH, E_runHr, E_runHn, E_runH2, E_raise1, E_R1, E_raise2, E_R2, E_R22, E_raise0, E_try, E_try1, E_tryr, E_tryx, E_try2, E_try2f, E_beh, E_behr, E_behb, E_behc, E_sl, E_sl1, E_sl2, E_sl3, E_sl3t, E_oN, E_oS, E_oS1, E_ch, E_ch1, E_ch2, E_ch3t, E_ch3f, E_ch4, E_enum, E_enum1, E_zip, E_zip1, E_zip1t, E_add, E_sub, E_neg, E_lt, E_le, E_gt, E_ge, E_eq, E_ne, E_mod, E_trI, E_trB, E_trN, E_trL, E_trT, E_lenL, E_lenT, E_lenS, E_listS, E_intB, E_intI, E_abs, E_listL, E_listT, E_tupleL, E_tupleT, E_dTup0, E_dTup1, E_dTup2, E_dTup3, E_dTup4, E_dTup5, E_dTup6, E_dTup7, E_dTup8, E_dTup9, E_dTup10, E_dTup11, E_dTup12, E_dLst0, E_dLst1, E_dLst2, E_dLst3, E_dLst4, E_dLst5, E_dLst6, E_dLst7, E_dLst8, E_dLst9, E_dLst10, E_dLst11, E_dLst12, E_gcd, E_isNnon, E_notN, E_isB, E_notB, E_ixL, E_ixT, E_at0, E_at1, E_at2, E_at3, E_at4, E_at5, E_isi_int_N, E_isi_int_B, E_isi_int_I, E_isi_int_S, E_isi_int_T, E_isi_int_L, E_isi_int_C, E_isi_bool_N, E_isi_bool_B, E_isi_bool_I, E_isi_bool_S, E_isi_bool_T, E_isi_bool_L, E_isi_bool_C, E_isi_str_N, E_isi_str_B, E_isi_str_I, E_isi_str_S, E_isi_str_T, E_isi_str_L, E_isi_str_C, E_isi_list_N, E_isi_list_B, E_isi_list_I, E_isi_list_S, E_isi_list_T, E_isi_list_L, E_isi_list_C, E_isi_tuple_N, E_isi_tuple_B, E_isi_tuple_I, E_isi_tuple_S, E_isi_tuple_T, E_isi_tuple_L, E_isi_tuple_C, E_isi2_N, E_isi2_B, E_isi2_I, E_isi2_S, E_isi2_T, E_isi2_L, E_isi2_C, E_isN_B, E_notN_B, E_isN_I, E_notN_I, E_isN_S, E_notN_S, E_isN_T, E_notN_T, E_isN_L, E_notN_L, E_isN_C, E_notN_C, E_isa1, E_isa2, E_lk1, E_xf, E_fam, E_mul, E_fdiv, E_ixN, E_decT, E_decF, List.getElem?_cons_zero, List.getElem?_cons_succ, List.set_cons_zero, List.set_cons_succ, List.length_cons, List.length_nil, List.length_map, List.append_nil, List.cons_append, List.nil_append, entry, List.map_cons, List.map_nil, List.replicate_succ, List.replicate_zero, Nat.reduceAdd, Nat.reduceSub, Nat.reduceLT, Nat.reduceLeDiff, Nat.reduceEqDiff, Nat.zero_add, ↓reduceIte, decide_true, decide_false, Bool.not_true, Bool.not_false, eq_self, ne_eq, not_true_eq_false, not_false_eq_true, Int.reduceEq, Int.reduceToNat, Int.toNat_natCast, Int.reduceNe, Int.reduceLT, Int.reduceLE, Int.reduceNeg, Nat.reduceLeDiff, if_true, if_false, decide_not, Bool.true_and, Bool.and_true, Bool.false_and, Bool.and_false, Bool.not_not, reduceCtorEq, w, w2, eg] <;> rfl)
    · unfold f__law_is_due m__law_is_due
      (simp (disch := first | omega | assumption | (simp only [List.length_cons, List.length_nil, List.length_map, List.length_append, List.length_set]; omega)) only [E_c, E_var, E_own, E_bin, E_bin1, E_bin1x, E_bin2, E_bin2x, E_opt, E_un, E_un1, E_un1x, E_nil, E_cons, E_cons1, E_cons1x, E_cons2, E_cons2x, E_aF, E_tB, E_fB, E_fBx, E_tT, E_fT, E_fTx, E_selt, E_self, E_if, E_ifx, E_rOk, E_tAnd, E_tOr, E_tNot, E_fNotR, E_fNotRx, E_and, E_and1, E_and1x, E_or, E_or1, E_or1x, E_not, E_not1, E_not1x, E_eIf, E_selT, E_call, E_call1, E_call1x, E_to, E_tox, E_callN, E_callN1, E_toN, E_callH, E_ifOwn, E_callH1, E_callH2, E_toH, E_ixO, E_ixO1, E_ixO2, E_move, E_move1, E_ownA, E_ownA1, E_ownV, E_varV, E_seq, E_then, E_thenr, E_thenx, E_thenb, E_thenc, E_seqN, E_thenN, E_next, E_brk, E_ct, E_expr, E_expr1, E_expr1x, E_set, E_set1, E_set1x, E_ret, E_ret1, E_ret1x, E_retN, E_ifS, E_ifS1, E_ifS1x, E_asg, E_asg1, E_asg1x, E_asg2, E_nm, E_nilG, E_consG, E_obind, E_tupG2, E_tupG3, E_tupG4, E_par, E_par1, E_app, E_ifOwnS, E_app1, E_app1x, E_app20, E_app2, E_setIx, E_SI1, E_SI2, E_SI3, E_SI4, E_for, E_for1, E_for1x, E_items, E_items1, E_itL, E_itS, E_itT, E_rng1, E_rng11, E_rng2, E_rng21, E_lc, E_lc1, E_lc1x, E_lc2, E_runF, E_runr, E_runn, E_runx, E_runN, E_runNr, E_runH, E_runHr, E_runHn, E_runH2, E_raise1, E_R1, E_raise2, E_R2, E_R22, E_raise0, E_try, E_try1, E_tryr, E_tryx, E_try2, E_try2f, E_beh, E_behr, E_behb, E_behc, E_sl, E_sl1, E_sl2, E_sl3, E_sl3t, E_oN, E_oS, E_oS1, E_ch, E_ch1, E_ch2, E_ch3t, E_ch3f, E_ch4, E_enum, E_enum1, E_zip, E_zip1, E_zip1t, E_add, E_sub, E_neg, E_lt, E_le, E_gt, E_ge, E_eq, E_ne, E_mod, E_trI, E_trB, E_trN, E_trL, E_trT, E_lenL, E_lenT, E_lenS, E_listS, E_intB, E_intI, E_abs, E_listL, E_listT, E_tupleL, E_tupleT, E_dTup0, E_dTup1, E_dTup2, E_dTup3, E_dTup4, E_dTup5, E_dTup6, E_dTup7, E_dTup8, E_dTup9, E_dTup10, E_dTup11, E_dTup12, E_dLst0, E_dLst1, E_dLst2, E_dLst3, E_dLst4, E_dLst5, E_dLst6, E_dLst7, E_dLst8, E_dLst9, E_dLst10, E_dLst11, E_dLst12, E_gcd, E_isNnon, E_notN, E_isB, E_notB, E_ixL, E_ixT, E_at0, E_at1, E_at2, E_at3, E_at4, E_at5, E_isi_int_N, E_isi_int_B, E_isi_int_I, E_isi_int_S, E_isi_int_T, E_isi_int_L, E_isi_int_C, E_isi_bool_N, E_isi_bool_B, E_isi_bool_I, E_isi_bool_S, E_isi_bool_T, E_isi_bool_L, E_isi_bool_C, E_isi_str_N, E_isi_str_B, E_isi_str_I, E_isi_str_S, E_isi_str_T, E_isi_str_L, E_isi_str_C, E_isi_list_N, E_isi_list_B, E_isi_list_I, E_isi_list_S, E_isi_list_T, E_isi_list_L, E_isi_list_C, E_isi_tuple_N, E_isi_tuple_B, E_isi_tuple_I, E_isi_tuple_S, E_isi_tuple_T, E_isi_tuple_L, E_isi_tuple_C, E_isi2_N, E_isi2_B, E_isi2_I, E_isi2_S, E_isi2_T, E_isi2_L, E_isi2_C, E_isN_B, E_notN_B, E_isN_I, E_notN_I, E_isN_S, E_notN_S, E_isN_T, E_notN_T, E_isN_L, E_notN_L, E_isN_C, E_notN_C, E_isa1, E_isa2, E_lk1, E_xf, E_fam, E_mul, E_fdiv, E_ixN, E_decT, E_decF, List.getElem?_cons_zero, List.getElem?_cons_succ, List.set_cons_zero, List.set_cons_succ, List.length_cons, List.length_nil, List.length_map, List.append_nil, List.cons_append, List.nil_append, entry, List.map_cons, List.map_nil, List.replicate_succ, List.replicate_zero, Nat.reduceAdd, Nat.reduceSub, Nat.reduceLT, Nat.reduceLeDiff, Nat.reduceEqDiff, Nat.zero_add, ↓reduceIte, decide_true, decide_false, Bool.not_true, Bool.not_false, eq_self, ne_eq, not_true_eq_false, not_false_eq_true, Int.reduceEq, Int.reduceToNat, Int.toNat_natCast, Int.reduceNe, Int.reduceLT, Int.reduceLE, Int.reduceNeg, Nat.reduceLeDiff, if_true, if_false, decide_not, Bool.true_and, Bool.and_true, Bool.false_and, Bool.and_false, Bool.not_not, reduceCtorEq, i1, i2, lg] <;> rfl)
  · have w2 : f_is_whole [.int y, .int 1, .non] = .ok (.bl false) := by
      unfold f_is_whole m_is_whole
      (simp (disch := first | omega | assumption | (simp only [List.length_cons, List.length_nil, List.length_map, List.length_append, List.length_set]; omega)) only [E_c, E_var, E_own, E_bin, E_bin1, E_bin1x, E_bin2, E_bin2x, E_opt, E_un, E_un1, E_un1x, E_nil, E_cons, E_cons1, E_cons1x, E_cons2, E_cons2x, E_aF, E_tB, E_fB, E_fBx, E_tT, E_fT, E_fTx, E_selt, E_self, E_if, E_ifx, E_rOk, E_tAnd, E_tOr, E_tNot, E_fNotR, E_fNotRx, E_and, E_and1, E_and1x, E_or, E_or1, E_or1x, E_not, E_not1, E_not1x, E_eIf, E_selT, E_call, E_call1, E_call1x, E_to, E_tox, E_callN, E_callN1, E_toN, E_callH, E_ifOwn, E_callH1, E_callH2, E_toH, E_ixO, E_ixO1, E_ixO2, E_move, E_move1, E_ownA, E_ownA1, E_ownV, E_varV, E_seq, E_then, E_thenr, E_thenx, E_thenb, E_thenc, E_seqN, E_thenN, E_next, E_brk, E_ct, E_expr, E_expr1, E_expr1x, E_set, E_set1, E_set1x, E_ret, E_ret1, E_ret1x, E_retN, E_ifS, E_ifS1, E_ifS1x, E_asg, E_asg1, E_asg1x, E_asg2, E_nm, E_nilG, E_consG, E_obind, E_tupG2, E_tupG3, E_tupG4, E_par, E_par1, E_app, E_ifOwnS, E_app1, E_app1x, E_app20, E_app2, E_setIx, E_SI1, E_SI2, E_SI3, E_SI4, E_for, E_for1, E_for1x, E_items, E_items1, E_itL, E_itS, E_itT, E_rng1, E_rng11, E_rng2, E_rng21, E_lc, E_lc1, E_lc1x, E_lc2, E_runF, E_runr, E_runn, E_runx, E_runN, E_runNr, E_runH, E_runHr, E_runHn, E_runH2, E_raise1, E_R1, E_raise2, E_R2, E_R22, E_raise0, E_try, E_try1, E_tryr, E_tryx, E_try2, E_try2f, E_beh, E_behr, E_behb, E_behc, E_sl, E_sl1, E_sl2, E_sl3, E_sl3t, E_oN, E_oS, E_oS1, E_ch, E_ch1, E_ch2, E_ch3t, E_ch3f, E_ch4, E_enum, E_enum1, E_zip, E_zip1, E_zip1t, E_add, E_sub, E_neg, E_lt, E_le, E_gt, E_ge, E_eq, E_ne, E_mod, E_trI, E_trB, E_trN, E_trL, E_trT, E_lenL, E_lenT, E_lenS, E_listS, E_intB, E_intI, E_abs, E_listL, E_listT, E_tupleL, E_tupleT, E_dTup0, E_dTup1, E_dTup2, E_dTup3, E_dTup4, E_dTup5, E_dTup6, E_dTup7, E_dTup8, E_dTup9, E_dTup10, E_dTup11, E_dTup12, E_dLst0, E_dLst1, E_dLst2, E_dLst3, E_dLst4, E_dLst5, E_dLst6, E_dLst7, E_dLst8, E_dLst9, E_dLst10, E_dLst11, E_dLst12, E_gcd, E_isNnon, E_notN, E_isB, E_notB, E_ixL, E_ixT, E_at0, E_at1, E_at2, E_at3, E_at4, E_at5, E_isi_int_N, E_isi_int_B, E_isi_int_I, E_isi_int_S, E_isi_int_T, E_isi_int_L, E_isi_int_C, E_isi_bool_N, E_isi_bool_B, E_isi_bool_I, E_isi_bool_S, E_isi_bool_T, E_isi_bool_L, E_isi_bool_C, E_isi_str_N, E_isi_str_B, E_isi_str_I, E_isi_str_S, E_isi_str_T, E_isi_str_L, E_isi_str_C, E_isi_list_N, E_isi_list_B, E_isi_list_I, E_isi_list_S, E_isi_list_T, E_isi_list_L, E_isi_list_C, E_isi_tuple_N, E_isi_tuple_B, E_isi_tuple_I, E_isi_tuple_S, E_isi_tuple_T, E_isi_tuple_L, E_isi_tuple_C, E_isi2_N, E_isi2_B, E_isi2_I, E_isi2_S, E_isi2_T, E_isi2_L, E_isi2_C, E_isN_B, E_notN_B, E_isN_I, E_notN_I, E_isN_S, E_notN_S, E_isN_T, E_notN_T, E_isN_L, E_notN_L, E_isN_C, E_notN_C, E_isa1, E_isa2, E_lk1, E_xf, E_fam, E_mul, E_fdiv, E_ixN, E_decT, E_decF, List.getElem?_cons_zero, List.getElem?_cons_succ, List.set_cons_zero, List.set_cons_succ, List.length_cons, List.length_nil, List.length_map, List.append_nil, List.cons_append, List.nil_append, entry, List.map_cons, List.map_nil, List.replicate_succ, List.replicate_zero, Nat.reduceAdd, Nat.reduceSub, Nat.reduceLT, Nat.reduceLeDiff, Nat.reduceEqDiff, Nat.zero_add, ↓reduceIte, decide_true, decide_false, Bool.not_true, Bool.not_false, eq_self, ne_eq, not_true_eq_false, not_false_eq_true, Int.reduceEq, Int.reduceToNat, Int.toNat_natCast, Int.reduceNe, Int.reduceLT, Int.reduceLE, Int.reduceNeg, Nat.reduceLeDiff, if_true, if_false, decide_not, Bool.true_and, Bool.and_true, Bool.false_and, Bool.and_false, Bool.not_not, reduceCtorEq] <;> rfl)
    have e : (decide (1 ≤ y) && decide ((Int.gcd x y : Int) = 1)) = false := by rw [decide_eq_false h, Bool.false_and]
    rw [e]
    constructor
    · unfold f_is_ratio m_is_ratio
      (simp (disch := first | omega | assumption | (simp only [List.length_cons, List.length_nil, List.length_map, List.length_append, List.length_set]; omega)) only [E_c, E_var, E_own, E_bin, E_bin1, E_bin1x, E_bin2, E_bin2x, E_opt, E_un, E_un1, E_un1x, E_nil, E_cons, E_cons1, E_cons1x, E_cons2, E_cons2x, E_aF, E_tB, E_fB, E_fBx, E_tT, E_fT, E_fTx, E_selt, E_self, E_if, E_ifx, E_rOk, E_tAnd, E_tOr, E_tNot, E_fNotR, E_fNotRx, E_and, E_and1, E_and1x, E_or, E_or1, E_or1x, E_not, E_not1, E_not1x, E_eIf, E_selT, E_call, E_call1, E_call1x, E_to, E_tox, E_callN, E_callN1, E_toN, E_callH, E_ifOwn, E_callH1, E_callH2, E_toH, E_ixO, E_ixO1, E_ixO2, E_move, E_move1, E_ownA, E_ownA1, E_ownV, E_varV, E_seq, E_then, E_thenr, E_thenx, E_thenb, E_thenc, E_seqN, E_thenN, E_next, E_brk, E_ct, E_expr, E_expr1, E_expr1x, E_set, E_set1, E_set1x, E_ret, E_ret1, E_ret1x, E_retN, E_ifS, E_ifS1, E_ifS1x, E_asg, E_asg1, E_asg1x, E_asg2, E_nm, E_nilG, E_consG, E_obind, E_tupG2, E_tupG3, E_tupG4, E_par, E_par1, E_app, E_ifOwnS, E_app1, E_app1x, E_app20, E_app2, E_setIx, E_SI1, E_SI2, E_SI3, E_SI4, E_for, E_for1, E_for1x, E_items, E_items1, E_itL, E_itS, E_itT, E_rng1, E_rng11, E_rng2, E_rng21, E_lc, E_lc1, E_lc1x, E_lc2, E_runF, E_runr, E_runn, E_runx, E_runN, E_runNr, E_runH, E_runHr, E_runHn, E_runH2, E_raise1, E_R1, E_raise2, E_R2, E_R22, E_raise0, E_try, E_try1, E_tryr, E_tryx, E_try2, E_try2f, E_beh, E_behr, E_behb, E_behc, E_sl, E_sl1, E_sl2, E_sl3, E_sl3t, E_oN, E_oS, E_oS1, E_ch, E_ch1, E_ch2, E_ch3t, E_ch3f, E_ch4, E_enum, E_enum1, E_zip, E_zip1, E_zip1t, E_add, E_sub, E_neg, E_lt, E_le, E_gt, E_ge, E_eq, E_ne, E_mod, E_trI, E_trB, E_trN, E_trL, E_trT, E_lenL, E_lenT, E_lenS, E_listS, E_intB, E_intI, E_abs, E_listL, E_listT, E_tupleL, E_tupleT, E_dTup0, E_dTup1, E_dTup2, E_dTup3, E_dTup4, E_dTup5, E_dTup6, E_dTup7, E_dTup8, E_dTup9, E_dTup10, E_dTup11, E_dTup12, E_dLst0, E_dLst1, E_dLst2, E_dLst3, E_dLst4, E_dLst5, E_dLst6, E_dLst7, E_dLst8, E_dLst9, E_dLst10, E_dLst11, E_dLst12, E_gcd, E_isNnon, E_notN, E_isB, E_notB, E_ixL, E_ixT, E_at0, E_at1, E_at2, E_at3, E_at4, E_at5, E_isi_int_N, E_isi_int_B, E_isi_int_I, E_isi_int_S, E_isi_int_T, E_isi_int_L, E_isi_int_C, E_isi_bool_N, E_isi_bool_B, E_isi_bool_I, E_isi_bool_S, E_isi_bool_T, E_isi_bool_L, E_isi_bool_C, E_isi_str_N, E_isi_str_B, E_isi_str_I, E_isi_str_S, E_isi_str_T, E_isi_str_L, E_isi_str_C, E_isi_list_N, E_isi_list_B, E_isi_list_I, E_isi_list_S, E_isi_list_T, E_isi_list_L, E_isi_list_C, E_isi_tuple_N, E_isi_tuple_B, E_isi_tuple_I, E_isi_tuple_S, E_isi_tuple_T, E_isi_tuple_L, E_isi_tuple_C, E_isi2_N, E_isi2_B, E_isi2_I, E_isi2_S, E_isi2_T, E_isi2_L, E_isi2_C, E_isN_B, E_notN_B, E_isN_I, E_notN_I, E_isN_S, E_notN_S, E_isN_T, E_notN_T, E_isN_L, E_notN_L, E_isN_C, E_notN_C, E_isa1, E_isa2, E_lk1, E_xf, E_fam, E_mul, E_fdiv, E_ixN, E_decT, E_decF, List.getElem?_cons_zero, List.getElem?_cons_succ, List.set_cons_zero, List.set_cons_succ, List.length_cons, List.length_nil, List.length_map, List.append_nil, List.cons_append, List.nil_append, entry, List.map_cons, List.map_nil, List.replicate_succ, List.replicate_zero, Nat.reduceAdd, Nat.reduceSub, Nat.reduceLT, Nat.reduceLeDiff, Nat.reduceEqDiff, Nat.zero_add, ↓reduceIte, decide_true, decide_false, Bool.not_true, Bool.not_false, eq_self, ne_eq, not_true_eq_false, not_false_eq_true, Int.reduceEq, Int.reduceToNat, Int.toNat_natCast, Int.reduceNe, Int.reduceLT, Int.reduceLE, Int.reduceNeg, Nat.reduceLeDiff, if_true, if_false, decide_not, Bool.true_and, Bool.and_true, Bool.false_and, Bool.and_false, Bool.not_not, reduceCtorEq, w, w2, eg] <;> rfl)
    · unfold f__law_is_due m__law_is_due
      (simp (disch := first | omega | assumption | (simp only [List.length_cons, List.length_nil, List.length_map, List.length_append, List.length_set]; omega)) only [E_c, E_var, E_own, E_bin, E_bin1, E_bin1x, E_bin2, E_bin2x, E_opt, E_un, E_un1, E_un1x, E_nil, E_cons, E_cons1, E_cons1x, E_cons2, E_cons2x, E_aF, E_tB, E_fB, E_fBx, E_tT, E_fT, E_fTx, E_selt, E_self, E_if, E_ifx, E_rOk, E_tAnd, E_tOr, E_tNot, E_fNotR, E_fNotRx, E_and, E_and1, E_and1x, E_or, E_or1, E_or1x, E_not, E_not1, E_not1x, E_eIf, E_selT, E_call, E_call1, E_call1x, E_to, E_tox, E_callN, E_callN1, E_toN, E_callH, E_ifOwn, E_callH1, E_callH2, E_toH, E_ixO, E_ixO1, E_ixO2, E_move, E_move1, E_ownA, E_ownA1, E_ownV, E_varV, E_seq, E_then, E_thenr, E_thenx, E_thenb, E_thenc, E_seqN, E_thenN, E_next, E_brk, E_ct, E_expr, E_expr1, E_expr1x, E_set, E_set1, E_set1x, E_ret, E_ret1, E_ret1x, E_retN, E_ifS, E_ifS1, E_ifS1x, E_asg, E_asg1, E_asg1x, E_asg2, E_nm, E_nilG, E_consG, E_obind, E_tupG2, E_tupG3, E_tupG4, E_par, E_par1, E_app, E_ifOwnS, E_app1, E_app1x, E_app20, E_app2, E_setIx, E_SI1, E_SI2, E_SI3, E_SI4, E_for, E_for1, E_for1x, E_items, E_items1, E_itL, E_itS, E_itT, E_rng1, E_rng11, E_rng2, E_rng21, E_lc, E_lc1, E_lc1x, E_lc2, E_runF, E_runr, E_runn, E_runx, E_runN, E_runNr, E_runH, E_runHr, E_runHn, E_runH2, E_raise1, E_R1, E_raise2, E_R2, E_R22, E_raise0, E_try, E_try1, E_tryr, E_tryx, E_try2, E_try2f, E_beh, E_behr, E_behb, E_behc, E_sl, E_sl1, E_sl2, E_sl3, E_sl3t, E_oN, E_oS, E_oS1, E_ch, E_ch1, E_ch2, E_ch3t, E_ch3f, E_ch4, E_enum, E_enum1, E_zip, E_zip1, E_zip1t, E_add, E_sub, E_neg, E_lt, E_le, E_gt, E_ge, E_eq, E_ne, E_mod, E_trI, E_trB, E_trN, E_trL, E_trT, E_lenL, E_lenT, E_lenS, E_listS, E_intB, E_intI, E_abs, E_listL, E_listT, E_tupleL, E_tupleT, E_dTup0, E_dTup1, E_dTup2, E_dTup3, E_dTup4, E_dTup5, E_dTup6, E_dTup7, E_dTup8, E_dTup9, E_dTup10, E_dTup11, E_dTup12, E_dLst0, E_dLst1, E_dLst2, E_dLst3, E_dLst4, E_dLst5, E_dLst6, E_dLst7, E_dLst8, E_dLst9, E_dLst10, E_dLst11, E_dLst12, E_gcd, E_isNnon, E_notN, E_isB, E_notB, E_ixL, E_ixT, E_at0, E_at1, E_at2, E_at3, E_at4, E_at5, E_isi_int_N, E_isi_int_B, E_isi_int_I, E_isi_int_S, E_isi_int_T, E_isi_int_L, E_isi_int_C, E_isi_bool_N, E_isi_bool_B, E_isi_bool_I, E_isi_bool_S, E_isi_bool_T, E_isi_bool_L, E_isi_bool_C, E_isi_str_N, E_isi_str_B, E_isi_str_I, E_isi_str_S, E_isi_str_T, E_isi_str_L, E_isi_str_C, E_isi_list_N, E_isi_list_B, E_isi_list_I, E_isi_list_S, E_isi_list_T, E_isi_list_L, E_isi_list_C, E_isi_tuple_N, E_isi_tuple_B, E_isi_tuple_I, E_isi_tuple_S, E_isi_tuple_T, E_isi_tuple_L, E_isi_tuple_C, E_isi2_N, E_isi2_B, E_isi2_I, E_isi2_S, E_isi2_T, E_isi2_L, E_isi2_C, E_isN_B, E_notN_B, E_isN_I, E_notN_I, E_isN_S, E_notN_S, E_isN_T, E_notN_T, E_isN_L, E_notN_L, E_isN_C, E_notN_C, E_isa1, E_isa2, E_lk1, E_xf, E_fam, E_mul, E_fdiv, E_ixN, E_decT, E_decF, List.getElem?_cons_zero, List.getElem?_cons_succ, List.set_cons_zero, List.set_cons_succ, List.length_cons, List.length_nil, List.length_map, List.append_nil, List.cons_append, List.nil_append, entry, List.map_cons, List.map_nil, List.replicate_succ, List.replicate_zero, Nat.reduceAdd, Nat.reduceSub, Nat.reduceLT, Nat.reduceLeDiff, Nat.reduceEqDiff, Nat.zero_add, ↓reduceIte, decide_true, decide_false, Bool.not_true, Bool.not_false, eq_self, ne_eq, not_true_eq_false, not_false_eq_true, Int.reduceEq, Int.reduceToNat, Int.toNat_natCast, Int.reduceNe, Int.reduceLT, Int.reduceLE, Int.reduceNeg, Nat.reduceLeDiff, if_true, if_false, decide_not, Bool.true_and, Bool.and_true, Bool.false_and, Bool.and_false, Bool.not_not, reduceCtorEq, i1, i2, lg] <;> rfl)
end Law

set_option Elab.async false
set_option linter.all false
set_option maxRecDepth 100000
set_option maxHeartbeats 4000000
noncomputable section
namespace Law
open PySem L2 Py
theorem dEq_blb (b c : Bool) : dEq (.bl b) (.bl c) = some (.bl (b == c)) := by
  have e : eqvD (.bl b) (.bl c) = (b == c) := by
    unfold eqvD
    simp [toPy, PyData.eqv]
  unfold dEq
  rw [e]
  rfl
theorem pl_yes (r : Bool) : f__law_yes [.bl r, .bl r] = .ok (.bl true) := by
  have e : dEq (.bl r) (.bl r) = some (.bl true) := by rw [dEq_blb]; simp
  have i : dIsi "bool" (.bl r) = some (.bl true) := rfl
  unfold f__law_yes m__law_yes
  (simp (disch := first | omega | assumption | (simp only [List.length_cons, List.length_nil, List.length_map, List.length_append, List.length_set]; omega) | (simp only [List.getElem?_cons_zero, List.getElem?_cons_succ]; done)) only [E_c, E_var, E_own, E_bin, E_bin1, E_bin1x, E_bin2, E_bin2x, E_opt, E_un, E_un1, E_un1x, E_nil, E_cons, E_cons1, E_cons1x, E_cons2, E_cons2x, E_aF, E_tB, E_fB, E_fBx, E_tT, E_fT, E_fTx, E_selt, E_self, E_if, E_ifx, E_rOk, E_tAnd, E_tOr, E_tNot, E_fNotR, E_fNotRx, E_and, E_and1, E_and1x, E_or, E_or1, E_or1x, E_not, E_not1, E_not1x, E_eIf, E_selT, E_call, E_call1, E_call1x, E_to, E_tox, E_callN, E_callN1, E_toN, E_callH, E_ifOwn, E_callH1, E_callH2, E_toH, E_ixO, E_ixO1, E_ixO2, E_move, E_move1, E_ownA, E_ownA1, E_ownV, E_varV, E_seq, E_then, E_thenr, E_thenx, E_thenb, E_thenc, E_seqN, E_thenN, E_next, E_brk, E_ct, E_expr, E_expr1, E_expr1x, E_set, E_set1, E_set1x, E_ret, E_ret1, E_ret1x, E_retN, E_ifS, E_ifS1, E_ifS1x, E_asg, E_asg1, E_asg1x, E_asg2, E_nm, E_nilG, E_consG, E_obind, E_tupG2, E_tupG3, E_tupG4, E_par, E_par1, E_app, E_ifOwnS, E_app1, E_app1x, E_app20, E_app2, E_setIx, E_SI1, E_SI2, E_SI3, E_SI4, E_for, E_for1, E_for1x, E_items, E_items1, E_itL, E_itS, E_itT, E_rng1, E_rng11, E_rng2, E_rng21, E_lc, E_lc1, E_lc1x, E_lc2, E_runF, E_runr, E_runn, E_runx, E_runN, E_runNr, E_runH, E_runHr, E_runHn, E_runH2, E_raise1, E_R1, E_raise2, E_R2, E_R22, E_raise0, E_try, E_try1, E_tryr, E_tryx, E_try2, E_try2f, E_beh, E_behr, E_behb, E_behc, E_sl, E_sl1, E_sl2, E_sl3, E_sl3t, E_oN, E_oS, E_oS1, E_ch, E_ch1, E_ch2, E_ch3t, E_ch3f, E_ch4, E_enum, E_enum1, E_zip, E_zip1, E_zip1t, E_add, E_sub, E_neg, E_lt, E_le, E_gt, E_ge, E_eq, E_ne, E_mod, E_trI, E_trB, E_trN, E_trL, E_trT, E_lenL, E_lenT, E_lenS, E_listS, E_intB, E_intI, E_abs, E_listL, E_listT, E_tupleL, E_tupleT, E_dTup0, E_dTup1, E_dTup2, E_dTup3, E_dTup4, E_dTup5, E_dTup6, E_dTup7, E_dTup8, E_dTup9, E_dTup10, E_dTup11, E_dTup12, E_dLst0, E_dLst1, E_dLst2, E_dLst3, E_dLst4, E_dLst5, E_dLst6, E_dLst7, E_dLst8, E_dLst9, E_dLst10, E_dLst11, E_dLst12, E_gcd, E_isNnon, E_notN, E_isB, E_notB, E_ixL, E_ixT, E_at0, E_at1, E_at2, E_at3, E_at4, E_at5, E_isi_int_N, E_isi_int_B, E_isi_int_I, E_isi_int_S, E_isi_int_T, E_isi_int_L, E_isi_int_C, E_isi_bool_N, E_isi_bool_B, E_isi_bool_I, E_isi_bool_S, E_isi_bool_T, E_isi_bool_L, E_isi_bool_C, E_isi_str_N, E_isi_str_B, E_isi_str_I, E_isi_str_S, E_isi_str_T, E_isi_str_L, E_isi_str_C, E_isi_list_N, E_isi_list_B, E_isi_list_I, E_isi_list_S, E_isi_list_T, E_isi_list_L, E_isi_list_C, E_isi_tuple_N, E_isi_tuple_B, E_isi_tuple_I, E_isi_tuple_S, E_isi_tuple_T, E_isi_tuple_L, E_isi_tuple_C, E_isi2_N, E_isi2_B, E_isi2_I, E_isi2_S, E_isi2_T, E_isi2_L, E_isi2_C, E_isN_B, E_notN_B, E_isN_I, E_notN_I, E_isN_S, E_notN_S, E_isN_T, E_notN_T, E_isN_L, E_notN_L, E_isN_C, E_notN_C, E_isa1, E_isa2, E_lk1, E_xf, E_fam, E_mul, E_fdiv, E_ixN, E_decT, E_decF, List.getElem?_cons_zero, List.getElem?_cons_succ, List.set_cons_zero, List.set_cons_succ, List.length_cons, List.length_nil, List.length_map, List.append_nil, List.cons_append, List.nil_append, entry, List.map_cons, List.map_nil, List.replicate_succ, List.replicate_zero, Nat.reduceAdd, Nat.reduceSub, Nat.reduceLT, Nat.reduceLeDiff, Nat.reduceEqDiff, Nat.zero_add, ↓reduceIte, decide_true, decide_false, Bool.not_true, Bool.not_false, eq_self, ne_eq, not_true_eq_false, not_false_eq_true, Int.reduceEq, Int.reduceToNat, Int.toNat_natCast, Int.reduceNe, Int.reduceLT, Int.reduceLE, Int.reduceNeg, Nat.reduceLeDiff, if_true, if_false, decide_not, Bool.true_and, Bool.and_true, Bool.false_and, Bool.and_false, Bool.not_not, reduceCtorEq, restE, wipeE, Option.getD_some, Option.getD_none, i, e] <;> rfl)
theorem isr_lst (x y : Int) : f_is_ratio [.lst [.int x, .int y]] = .ok (.bl false) ∧ f__law_is_due [.lst [.int x, .int y]] = .ok (.bl false) := by
  have i : dIsi "tuple" (.lst [.int x, .int y]) = some (.bl false) := rfl
  constructor
  · unfold f_is_ratio m_is_ratio
    (simp (disch := first | omega | assumption | (simp only [List.length_cons, List.length_nil, List.length_map, List.length_append, List.length_set]; omega) | (simp only [List.getElem?_cons_zero, List.getElem?_cons_succ]; done)) only [E_c, E_var, E_own, E_bin, E_bin1, E_bin1x, E_bin2, E_bin2x, E_opt, E_un, E_un1, E_un1x, E_nil, E_cons, E_cons1, E_cons1x, E_cons2, E_cons2x, E_aF, E_tB, E_fB, E_fBx, E_tT, E_fT, E_fTx, E_selt, E_self, E_if, E_ifx, E_rOk, E_tAnd, E_tOr, E_tNot, E_fNotR, E_fNotRx, E_and, E_and1, E_and1x, E_or, E_or1, E_or1x, E_not, E_not1, E_not1x, E_eIf, E_selT, E_call, E_call1, E_call1x, E_to, E_tox, E_callN, E_callN1, E_toN, E_callH, E_ifOwn, E_callH1, E_callH2, E_toH, E_ixO, E_ixO1, E_ixO2, E_move, E_move1, E_ownA, E_ownA1, E_ownV, E_varV, E_seq, E_then, E_thenr, E_thenx, E_thenb, E_thenc, E_seqN, E_thenN, E_next, E_brk, E_ct, E_expr, E_expr1, E_expr1x, E_set, E_set1, E_set1x, E_ret, E_ret1, E_ret1x, E_retN, E_ifS, E_ifS1, E_ifS1x, E_asg, E_asg1, E_asg1x, E_asg2, E_nm, E_nilG, E_consG, E_obind, E_tupG2, E_tupG3, E_tupG4, E_par, E_par1, E_app, E_ifOwnS, E_app1, E_app1x, E_app20, E_app2, E_setIx, E_SI1, E_SI2, E_SI3, E_SI4, E_for, E_for1, E_for1x, E_items, E_items1, E_itL, E_itS, E_itT, E_rng1, E_rng11, E_rng2, E_rng21, E_lc, E_lc1, E_lc1x, E_lc2, E_runF, E_runr, E_runn, E_runx, E_runN, E_runNr, E_runH, E_runHr, E_runHn, E_runH2, E_raise1, E_R1, E_raise2, E_R2, E_R22, E_raise0, E_try, E_try1, E_tryr, E_tryx, E_try2, E_try2f, E_beh, E_behr, E_behb, E_behc, E_sl, E_sl1, E_sl2, E_sl3, E_sl3t, E_oN, E_oS, E_oS1, E_ch, E_ch1, E_ch2, E_ch3t, E_ch3f, E_ch4, E_enum, E_enum1, E_zip, E_zip1, E_zip1t, E_add, E_sub, E_neg, E_lt, E_le, E_gt, E_ge, E_eq, E_ne, E_mod, E_trI, E_trB, E_trN, E_trL, E_trT, E_lenL, E_lenT, E_lenS, E_listS, E_intB, E_intI, E_abs, E_listL, E_listT, E_tupleL, E_tupleT, E_dTup0, E_dTup1, E_dTup2, E_dTup3, E_dTup4, E_dTup5, E_dTup6, E_dTup7, E_dTup8, E_dTup9, E_dTup10, E_dTup11, E_dTup12, E_dLst0, E_dLst1, E_dLst2, E_dLst3, E_dLst4, E_dLst5, E_dLst6, E_dLst7, E_dLst8, E_dLst9, E_dLst10, E_dLst11, E_dLst12, E_gcd, E_isNnon, E_notN, E_isB, E_notB, E_ixL, E_ixT, E_at0, E_at1, E_at2, E_at3, E_at4, E_at5, E_isi_int_N, E_isi_int_B, E_isi_int_I, E_isi_int_S, E_isi_int_T, E_isi_int_L, E_isi_int_C, E_isi_bool_N, E_isi_bool_B, E_isi_bool_I, E_isi_bool_S, E_isi_bool_T, E_isi_bool_L, E_isi_bool_C, E_isi_str_N, E_isi_str_B, E_isi_str_I, E_isi_str_S, E_isi_str_T, E_isi_str_L, E_isi_str_C, E_isi_list_N, E_isi_list_B, E_isi_list_I, E_isi_list_S, E_isi_list_T, E_isi_list_L, E_isi_list_C, E_isi_tuple_N, E_isi_tuple_B, E_isi_tuple_I, E_isi_tuple_S, E_isi_tuple_T, E_isi_tuple_L, E_isi_tuple_C, E_isi2_N, E_isi2_B, E_isi2_I, E_isi2_S, E_isi2_T, E_isi2_L, E_isi2_C, E_isN_B, E_notN_B, E_isN_I, E_notN_I, E_isN_S, E_notN_S, E_isN_T, E_notN_T, E_isN_L, E_notN_L, E_isN_C, E_notN_C, E_isa1, E_isa2, E_lk1, E_xf, E_fam, E_mul, E_fdiv, E_ixN, E_decT, E_decF, List.getElem?_cons_zero, List.getElem?_cons_succ, List.set_cons_zero, List.set_cons_succ, List.length_cons, List.length_nil, List.length_map, List.append_nil, List.cons_append, List.nil_append, entry, List.map_cons, List.map_nil, List.replicate_succ, List.replicate_zero, Nat.reduceAdd, Nat.reduceSub, Nat.reduceLT, Nat.reduceLeDiff, Nat.reduceEqDiff, Nat.zero_add, ↓reduceIte, decide_true, decide_false, Bool.not_true, Bool.not_false, eq_self, ne_eq, not_true_eq_false, not_false_eq_true, Int.reduceEq, Int.reduceToNat, Int.toNat_natCast, Int.reduceNe, Int.reduceLT, Int.reduceLE, Int.reduceNeg, Nat.reduceLeDiff, if_true, if_false, decide_not, Bool.true_and, Bool.and_true, Bool.false_and, Bool.and_false, Bool.not_not, reduceCtorEq, restE, wipeE, Option.getD_some, Option.getD_none, i] <;> rfl)
  · unfold f__law_is_due m__law_is_due
    (simp (disch := first | omega | assumption | (simp only [List.length_cons, List.length_nil, List.length_map, List.length_append, List.length_set]; omega) | (simp only [List.getElem?_cons_zero, List.getElem?_cons_succ]; done)) only [E_c, E_var, E_own, E_bin, E_bin1, E_bin1x, E_bin2, E_bin2x, E_opt, E_un, E_un1, E_un1x, E_nil, E_cons, E_cons1, E_cons1x, E_cons2, E_cons2x, E_aF, E_tB, E_fB, E_fBx, E_tT, E_fT, E_fTx, E_selt, E_self, E_if, E_ifx, E_rOk, E_tAnd, E_tOr, E_tNot, E_fNotR, E_fNotRx, E_and, E_and1, E_and1x, E_or, E_or1, E_or1x, E_not, E_not1, E_not1x, E_eIf, E_selT, E_call, E_call1, E_call1x, E_to, E_tox, E_callN, E_callN1, E_toN, E_callH, E_ifOwn, E_callH1, E_callH2, E_toH, E_ixO, E_ixO1, E_ixO2, E_move, E_move1, E_ownA, E_ownA1, E_ownV, E_varV, E_seq, E_then, E_thenr, E_thenx, E_thenb, E_thenc, E_seqN, E_thenN, E_next, E_brk, E_ct, E_expr, E_expr1, E_expr1x, E_set, E_set1, E_set1x, E_ret, E_ret1, E_ret1x, E_retN, E_ifS, E_ifS1, E_ifS1x, E_asg, E_asg1, E_asg1x, E_asg2, E_nm, E_nilG, E_consG, E_obind, E_tupG2, E_tupG3, E_tupG4, E_par, E_par1, E_app, E_ifOwnS, E_app1, E_app1x, E_app20, E_app2, E_setIx, E_SI1, E_SI2, E_SI3, E_SI4, E_for, E_for1, E_for1x, E_items, E_items1, E_itL, E_itS, E_itT, E_rng1, E_rng11, E_rng2, E_rng21, E_lc, E_lc1, E_lc1x, E_lc2, E_runF, E_runr, E_runn, E_runx, E_runN, E_runNr, E_runH, E_runHr, E_runHn, E_runH2, E_raise1, E_R1, E_raise2, E_R2, E_R22, E_raise0, E_try, E_try1, E_tryr, E_tryx, E_try2, E_try2f, E_beh, E_behr, E_behb, E_behc, E_sl, E_sl1, E_sl2, E_sl3, E_sl3t, E_oN, E_oS, E_oS1, E_ch, E_ch1, E_ch2, E_ch3t, E_ch3f, E_ch4, E_enum, E_enum1, E_zip, E_zip1, E_zip1t, E_add, E_sub, E_neg, E_lt, E_le, E_gt, E_ge, E_eq, E_ne, E_mod, E_trI, E_trB, E_trN, E_trL, E_trT, E_lenL, E_lenT, E_lenS, E_listS, E_intB, E_intI, E_abs, E_listL, E_listT, E_tupleL, E_tupleT, E_dTup0, E_dTup1, E_dTup2, E_dTup3, E_dTup4, E_dTup5, E_dTup6, E_dTup7, E_dTup8, E_dTup9, E_dTup10, E_dTup11, E_dTup12, E_dLst0, E_dLst1, E_dLst2, E_dLst3, E_dLst4, E_dLst5, E_dLst6, E_dLst7, E_dLst8, E_dLst9, E_dLst10, E_dLst11, E_dLst12, E_gcd, E_isNnon, E_notN, E_isB, E_notB, E_ixL, E_ixT, E_at0, E_at1, E_at2, E_at3, E_at4, E_at5, E_isi_int_N, E_isi_int_B, E_isi_int_I, E_isi_int_S, E_isi_int_T, E_isi_int_L, E_isi_int_C, E_isi_bool_N, E_isi_bool_B, E_isi_bool_I, E_isi_bool_S, E_isi_bool_T, E_isi_bool_L, E_isi_bool_C, E_isi_str_N, E_isi_str_B, E_isi_str_I, E_isi_str_S, E_isi_str_T, E_isi_str_L, E_isi_str_C, E_isi_list_N, E_isi_list_B, E_isi_list_I, E_isi_list_S, E_isi_list_T, E_isi_list_L, E_isi_list_C, E_isi_tuple_N, E_isi_tuple_B, E_isi_tuple_I, E_isi_tuple_S, E_isi_tuple_T, E_isi_tuple_L, E_isi_tuple_C, E_isi2_N, E_isi2_B, E_isi2_I, E_isi2_S, E_isi2_T, E_isi2_L, E_isi2_C, E_isN_B, E_notN_B, E_isN_I, E_notN_I, E_isN_S, E_notN_S, E_isN_T, E_notN_T, E_isN_L, E_notN_L, E_isN_C, E_notN_C, E_isa1, E_isa2, E_lk1, E_xf, E_fam, E_mul, E_fdiv, E_ixN, E_decT, E_decF, List.getElem?_cons_zero, List.getElem?_cons_succ, List.set_cons_zero, List.set_cons_succ, List.length_cons, List.length_nil, List.length_map, List.append_nil, List.cons_append, List.nil_append, entry, List.map_cons, List.map_nil, List.replicate_succ, List.replicate_zero, Nat.reduceAdd, Nat.reduceSub, Nat.reduceLT, Nat.reduceLeDiff, Nat.reduceEqDiff, Nat.zero_add, ↓reduceIte, decide_true, decide_false, Bool.not_true, Bool.not_false, eq_self, ne_eq, not_true_eq_false, not_false_eq_true, Int.reduceEq, Int.reduceToNat, Int.toNat_natCast, Int.reduceNe, Int.reduceLT, Int.reduceLE, Int.reduceNeg, Nat.reduceLeDiff, if_true, if_false, decide_not, Bool.true_and, Bool.and_true, Bool.false_and, Bool.and_false, Bool.not_not, reduceCtorEq, restE, wipeE, Option.getD_some, Option.getD_none, i] <;> rfl)
theorem isr_t3 (x y z : Int) : f_is_ratio [.tup [.int x, .int y, .int z]] = .ok (.bl false) ∧ f__law_is_due [.tup [.int x, .int y, .int z]] = .ok (.bl false) := by
  have i : dIsi "tuple" (.tup [.int x, .int y, .int z]) = some (.bl true) := rfl
  constructor
  · unfold f_is_ratio m_is_ratio
    (simp (disch := first | omega | assumption | (simp only [List.length_cons, List.length_nil, List.length_map, List.length_append, List.length_set]; omega) | (simp only [List.getElem?_cons_zero, List.getElem?_cons_succ]; done)) only [E_c, E_var, E_own, E_bin, E_bin1, E_bin1x, E_bin2, E_bin2x, E_opt, E_un, E_un1, E_un1x, E_nil, E_cons, E_cons1, E_cons1x, E_cons2, E_cons2x, E_aF, E_tB, E_fB, E_fBx, E_tT, E_fT, E_fTx, E_selt, E_self, E_if, E_ifx, E_rOk, E_tAnd, E_tOr, E_tNot, E_fNotR, E_fNotRx, E_and, E_and1, E_and1x, E_or, E_or1, E_or1x, E_not, E_not1, E_not1x, E_eIf, E_selT, E_call, E_call1, E_call1x, E_to, E_tox, E_callN, E_callN1, E_toN, E_callH, E_ifOwn, E_callH1, E_callH2, E_toH, E_ixO, E_ixO1, E_ixO2, E_move, E_move1, E_ownA, E_ownA1, E_ownV, E_varV, E_seq, E_then, E_thenr, E_thenx, E_thenb, E_thenc, E_seqN, E_thenN, E_next, E_brk, E_ct, E_expr, E_expr1, E_expr1x, E_set, E_set1, E_set1x, E_ret, E_ret1, E_ret1x, E_retN, E_ifS, E_ifS1, E_ifS1x, E_asg, E_asg1, E_asg1x, E_asg2, E_nm, E_nilG, E_consG, E_obind, E_tupG2, E_tupG3, E_tupG4, E_par, E_par1, E_app, E_ifOwnS, E_app1, E_app1x, E_app20, E_app2, E_setIx, E_SI1, E_SI2, E_SI3, E_SI4, E_for, E_for1, E_for1x, E_items, E_items1, E_itL, E_itS, E_itT, E_rng1, E_rng11, E_rng2, E_rng21, E_lc, E_lc1, E_lc1x, E_lc2, E_runF, E_runr, E_runn, E_runx, E_runN, E_runNr, E_runH, E_runHr, E_runHn, E_runH2, E_raise1, E_R1, E_raise2, E_R2, E_R22, E_raise0, E_try, E_try1, E_tryr, E_tryx, E_try2, E_try2f, E_beh, E_behr, E_behb, E_behc, E_sl, E_sl1, E_sl2, E_sl3, E_sl3t, E_oN, E_oS, E_oS1, E_ch, E_ch1, E_ch2, E_ch3t, E_ch3f, E_ch4, E_enum, E_enum1, E_zip, E_zip1, E_zip1t, E_add, E_sub, E_neg, E_lt, E_le, E_gt, E_ge, E_eq, E_ne, E_mod, E_trI, E_trB, E_trN, E_trL, E_trT, E_lenL, E_lenT, E_lenS, E_listS, E_intB, E_intI, E_abs, E_listL, E_listT, E_tupleL, E_tupleT, E_dTup0, E_dTup1, E_dTup2, E_dTup3, E_dTup4, E_dTup5, E_dTup6, E_dTup7, E_dTup8, E_dTup9, E_dTup10, E_dTup11, E_dTup12, E_dLst0, E_dLst1, E_dLst2, E_dLst3, E_dLst4, E_dLst5, E_dLst6, E_dLst7, E_dLst8, E_dLst9, E_dLst10, E_dLst11, E_dLst12, E_gcd, E_isNnon, E_notN, E_isB, E_notB, E_ixL, E_ixT, E_at0, E_at1, E_at2, E_at3, E_at4, E_at5, E_isi_int_N, E_isi_int_B, E_isi_int_I, E_isi_int_S, E_isi_int_T, E_isi_int_L, E_isi_int_C, E_isi_bool_N, E_isi_bool_B, E_isi_bool_I, E_isi_bool_S, E_isi_bool_T, E_isi_bool_L, E_isi_bool_C, E_isi_str_N, E_isi_str_B, E_isi_str_I, E_isi_str_S, E_isi_str_T, E_isi_str_L, E_isi_str_C, E_isi_list_N, E_isi_list_B, E_isi_list_I, E_isi_list_S, E_isi_list_T, E_isi_list_L, E_isi_list_C, E_isi_tuple_N, E_isi_tuple_B, E_isi_tuple_I, E_isi_tuple_S, E_isi_tuple_T, E_isi_tuple_L, E_isi_tuple_C, E_isi2_N, E_isi2_B, E_isi2_I, E_isi2_S, E_isi2_T, E_isi2_L, E_isi2_C, E_isN_B, E_notN_B, E_isN_I, E_notN_I, E_isN_S, E_notN_S, E_isN_T, E_notN_T, E_isN_L, E_notN_L, E_isN_C, E_notN_C, E_isa1, E_isa2, E_lk1, E_xf, E_fam, E_mul, E_fdiv, E_ixN, E_decT, E_decF, List.getElem?_cons_zero, List.getElem?_cons_succ, List.set_cons_zero, List.set_cons_succ, List.length_cons, List.length_nil, List.length_map, List.append_nil, List.cons_append, List.nil_append, entry, List.map_cons, List.map_nil, List.replicate_succ, List.replicate_zero, Nat.reduceAdd, Nat.reduceSub, Nat.reduceLT, Nat.reduceLeDiff, Nat.reduceEqDiff, Nat.zero_add, ↓reduceIte, decide_true, decide_false, Bool.not_true, Bool.not_false, eq_self, ne_eq, not_true_eq_false, not_false_eq_true, Int.reduceEq, Int.reduceToNat, Int.toNat_natCast, Int.reduceNe, Int.reduceLT, Int.reduceLE, Int.reduceNeg, Nat.reduceLeDiff, if_true, if_false, decide_not, Bool.true_and, Bool.and_true, Bool.false_and, Bool.and_false, Bool.not_not, reduceCtorEq, restE, wipeE, Option.getD_some, Option.getD_none, i] <;> rfl)
  · unfold f__law_is_due m__law_is_due
    (simp (disch := first | omega | assumption | (simp only [List.length_cons, List.length_nil, List.length_map, List.length_append, List.length_set]; omega) | (simp only [List.getElem?_cons_zero, List.getElem?_cons_succ]; done)) only [E_c, E_var, E_own, E_bin, E_bin1, E_bin1x, E_bin2, E_bin2x, E_opt, E_un, E_un1, E_un1x, E_nil, E_cons, E_cons1, E_cons1x, E_cons2, E_cons2x, E_aF, E_tB, E_fB, E_fBx, E_tT, E_fT, E_fTx, E_selt, E_self, E_if, E_ifx, E_rOk, E_tAnd, E_tOr, E_tNot, E_fNotR, E_fNotRx, E_and, E_and1, E_and1x, E_or, E_or1, E_or1x, E_not, E_not1, E_not1x, E_eIf, E_selT, E_call, E_call1, E_call1x, E_to, E_tox, E_callN, E_callN1, E_toN, E_callH, E_ifOwn, E_callH1, E_callH2, E_toH, E_ixO, E_ixO1, E_ixO2, E_move, E_move1, E_ownA, E_ownA1, E_ownV, E_varV, E_seq, E_then, E_thenr, E_thenx, E_thenb, E_thenc, E_seqN, E_thenN, E_next, E_brk, E_ct, E_expr, E_expr1, E_expr1x, E_set, E_set1, E_set1x, E_ret, E_ret1, E_ret1x, E_retN, E_ifS, E_ifS1, E_ifS1x, E_asg, E_asg1, E_asg1x, E_asg2, E_nm, E_nilG, E_consG, E_obind, E_tupG2, E_tupG3, E_tupG4, E_par, E_par1, E_app, E_ifOwnS, E_app1, E_app1x, E_app20, E_app2, E_setIx, E_SI1, E_SI2, E_SI3, E_SI4, E_for, E_for1, E_for1x, E_items, E_items1, E_itL, E_itS, E_itT, E_rng1, E_rng11, E_rng2, E_rng21, E_lc, E_lc1, E_lc1x, E_lc2, E_runF, E_runr, E_runn, E_runx, E_runN, E_runNr, E_runH, E_runHr, E_runHn, E_runH2, E_raise1, E_R1, E_raise2, E_R2, E_R22, E_raise0, E_try, E_try1, E_tryr, E_tryx, E_try2, E_try2f, E_beh, E_behr, E_behb, E_behc, E_sl, E_sl1, E_sl2, E_sl3, E_sl3t, E_oN, E_oS, E_oS1, E_ch, E_ch1, E_ch2, E_ch3t, E_ch3f, E_ch4, E_enum, E_enum1, E_zip, E_zip1, E_zip1t, E_add, E_sub, E_neg, E_lt, E_le, E_gt, E_ge, E_eq, E_ne, E_mod, E_trI, E_trB, E_trN, E_trL, E_trT, E_lenL, E_lenT, E_lenS, E_listS, E_intB, E_intI, E_abs, E_listL, E_listT, E_tupleL, E_tupleT, E_dTup0, E_dTup1, E_dTup2, E_dTup3, E_dTup4, E_dTup5, E_dTup6, E_dTup7, E_dTup8, E_dTup9, E_dTup10, E_dTup11, E_dTup12, E_dLst0, E_dLst1, E_dLst2, E_dLst3, E_dLst4, E_dLst5, E_dLst6, E_dLst7, E_dLst8, E_dLst9, E_dLst10, E_dLst11, E_dLst12, E_gcd, E_isNnon, E_notN, E_isB, E_notB, E_ixL, E_ixT, E_at0, E_at1, E_at2, E_at3, E_at4, E_at5, E_isi_int_N, E_isi_int_B, E_isi_int_I, E_isi_int_S, E_isi_int_T, E_isi_int_L, E_isi_int_C, E_isi_bool_N, E_isi_bool_B, E_isi_bool_I, E_isi_bool_S, E_isi_bool_T, E_isi_bool_L, E_isi_bool_C, E_isi_str_N, E_isi_str_B, E_isi_str_I, E_isi_str_S, E_isi_str_T, E_isi_str_L, E_isi_str_C, E_isi_list_N, E_isi_list_B, E_isi_list_I, E_isi_list_S, E_isi_list_T, E_isi_list_L, E_isi_list_C, E_isi_tuple_N, E_isi_tuple_B, E_isi_tuple_I, E_isi_tuple_S, E_isi_tuple_T, E_isi_tuple_L, E_isi_tuple_C, E_isi2_N, E_isi2_B, E_isi2_I, E_isi2_S, E_isi2_T, E_isi2_L, E_isi2_C, E_isN_B, E_notN_B, E_isN_I, E_notN_I, E_isN_S, E_notN_S, E_isN_T, E_notN_T, E_isN_L, E_notN_L, E_isN_C, E_notN_C, E_isa1, E_isa2, E_lk1, E_xf, E_fam, E_mul, E_fdiv, E_ixN, E_decT, E_decF, List.getElem?_cons_zero, List.getElem?_cons_succ, List.set_cons_zero, List.set_cons_succ, List.length_cons, List.length_nil, List.length_map, List.append_nil, List.cons_append, List.nil_append, entry, List.map_cons, List.map_nil, List.replicate_succ, List.replicate_zero, Nat.reduceAdd, Nat.reduceSub, Nat.reduceLT, Nat.reduceLeDiff, Nat.reduceEqDiff, Nat.zero_add, ↓reduceIte, decide_true, decide_false, Bool.not_true, Bool.not_false, eq_self, ne_eq, not_true_eq_false, not_false_eq_true, Int.reduceEq, Int.reduceToNat, Int.toNat_natCast, Int.reduceNe, Int.reduceLT, Int.reduceLE, Int.reduceNeg, Nat.reduceLeDiff, if_true, if_false, decide_not, Bool.true_and, Bool.and_true, Bool.false_and, Bool.and_false, Bool.not_not, reduceCtorEq, restE, wipeE, Option.getD_some, Option.getD_none, i] <;> rfl)
theorem isr_t1 (x : D) : f_is_ratio [.tup [x]] = .ok (.bl false) ∧ f__law_is_due [.tup [x]] = .ok (.bl false) := by
  have i : dIsi "tuple" (.tup [x]) = some (.bl true) := rfl
  constructor
  · unfold f_is_ratio m_is_ratio
    (simp (disch := first | omega | assumption | (simp only [List.length_cons, List.length_nil, List.length_map, List.length_append, List.length_set]; omega) | (simp only [List.getElem?_cons_zero, List.getElem?_cons_succ]; done)) only [E_c, E_var, E_own, E_bin, E_bin1, E_bin1x, E_bin2, E_bin2x, E_opt, E_un, E_un1, E_un1x, E_nil, E_cons, E_cons1, E_cons1x, E_cons2, E_cons2x, E_aF, E_tB, E_fB, E_fBx, E_tT, E_fT, E_fTx, E_selt, E_self, E_if, E_ifx, E_rOk, E_tAnd, E_tOr, E_tNot, E_fNotR, E_fNotRx, E_and, E_and1, E_and1x, E_or, E_or1, E_or1x, E_not, E_not1, E_not1x, E_eIf, E_selT, E_call, E_call1, E_call1x, E_to, E_tox, E_callN, E_callN1, E_toN, E_callH, E_ifOwn, E_callH1, E_callH2, E_toH, E_ixO, E_ixO1, E_ixO2, E_move, E_move1, E_ownA, E_ownA1, E_ownV, E_varV, E_seq, E_then, E_thenr, E_thenx, E_thenb, E_thenc, E_seqN, E_thenN, E_next, E_brk, E_ct, E_expr, E_expr1, E_expr1x, E_set, E_set1, E_set1x, E_ret, E_ret1, E_ret1x, E_retN, E_ifS, E_ifS1, E_ifS1x, E_asg, E_asg1, E_asg1x, E_asg2, E_nm, E_nilG, E_consG, E_obind, E_tupG2, E_tupG3, E_tupG4, E_par, E_par1, E_app, E_ifOwnS, E_app1, E_app1x, E_app20, E_app2, E_setIx, E_SI1, E_SI2, E_SI3, E_SI4, E_for, E_for1, E_for1x, E_items, E_items1, E_itL, E_itS, E_itT, E_rng1, E_rng11, E_rng2, E_rng21, E_lc, E_lc1, E_lc1x, E_lc2, E_runF, E_runr, E_runn, E_runx, E_runN, E_runNr, E_runH, E_runHr, E_runHn, E_runH2, E_raise1, E_R1, E_raise2, E_R2, E_R22, E_raise0, E_try, E_try1, E_tryr, E_tryx, E_try2, E_try2f, E_beh, E_behr, E_behb, E_behc, E_sl, E_sl1, E_sl2, E_sl3, E_sl3t, E_oN, E_oS, E_oS1, E_ch, E_ch1, E_ch2, E_ch3t, E_ch3f, E_ch4, E_enum, E_enum1, E_zip, E_zip1, E_zip1t, E_add, E_sub, E_neg, E_lt, E_le, E_gt, E_ge, E_eq, E_ne, E_mod, E_trI, E_trB, E_trN, E_trL, E_trT, E_lenL, E_lenT, E_lenS, E_listS, E_intB, E_intI, E_abs, E_listL, E_listT, E_tupleL, E_tupleT, E_dTup0, E_dTup1, E_dTup2, E_dTup3, E_dTup4, E_dTup5, E_dTup6, E_dTup7, E_dTup8, E_dTup9, E_dTup10, E_dTup11, E_dTup12, E_dLst0, E_dLst1, E_dLst2, E_dLst3, E_dLst4, E_dLst5, E_dLst6, E_dLst7, E_dLst8, E_dLst9, E_dLst10, E_dLst11, E_dLst12, E_gcd, E_isNnon, E_notN, E_isB, E_notB, E_ixL, E_ixT, E_at0, E_at1, E_at2, E_at3, E_at4, E_at5, E_isi_int_N, E_isi_int_B, E_isi_int_I, E_isi_int_S, E_isi_int_T, E_isi_int_L, E_isi_int_C, E_isi_bool_N, E_isi_bool_B, E_isi_bool_I, E_isi_bool_S, E_isi_bool_T, E_isi_bool_L, E_isi_bool_C, E_isi_str_N, E_isi_str_B, E_isi_str_I, E_isi_str_S, E_isi_str_T, E_isi_str_L, E_isi_str_C, E_isi_list_N, E_isi_list_B, E_isi_list_I, E_isi_list_S, E_isi_list_T, E_isi_list_L, E_isi_list_C, E_isi_tuple_N, E_isi_tuple_B, E_isi_tuple_I, E_isi_tuple_S, E_isi_tuple_T, E_isi_tuple_L, E_isi_tuple_C, E_isi2_N, E_isi2_B, E_isi2_I, E_isi2_S, E_isi2_T, E_isi2_L, E_isi2_C, E_isN_B, E_notN_B, E_isN_I, E_notN_I, E_isN_S, E_notN_S, E_isN_T, E_notN_T, E_isN_L, E_notN_L, E_isN_C, E_notN_C, E_isa1, E_isa2, E_lk1, E_xf, E_fam, E_mul, E_fdiv, E_ixN, E_decT, E_decF, List.getElem?_cons_zero, List.getElem?_cons_succ, List.set_cons_zero, List.set_cons_succ, List.length_cons, List.length_nil, List.length_map, List.append_nil, List.cons_append, List.nil_append, entry, List.map_cons, List.map_nil, List.replicate_succ, List.replicate_zero, Nat.reduceAdd, Nat.reduceSub, Nat.reduceLT, Nat.reduceLeDiff, Nat.reduceEqDiff, Nat.zero_add, ↓reduceIte, decide_true, decide_false, Bool.not_true, Bool.not_false, eq_self, ne_eq, not_true_eq_false, not_false_eq_true, Int.reduceEq, Int.reduceToNat, Int.toNat_natCast, Int.reduceNe, Int.reduceLT, Int.reduceLE, Int.reduceNeg, Nat.reduceLeDiff, if_true, if_false, decide_not, Bool.true_and, Bool.and_true, Bool.false_and, Bool.and_false, Bool.not_not, reduceCtorEq, restE, wipeE, Option.getD_some, Option.getD_none, i] <;> rfl)
  · unfold f__law_is_due m__law_is_due
    (simp (disch := first | omega | assumption | (simp only [List.length_cons, List.length_nil, List.length_map, List.length_append, List.length_set]; omega) | (simp only [List.getElem?_cons_zero, List.getElem?_cons_succ]; done)) only [E_c, E_var, E_own, E_bin, E_bin1, E_bin1x, E_bin2, E_bin2x, E_opt, E_un, E_un1, E_un1x, E_nil, E_cons, E_cons1, E_cons1x, E_cons2, E_cons2x, E_aF, E_tB, E_fB, E_fBx, E_tT, E_fT, E_fTx, E_selt, E_self, E_if, E_ifx, E_rOk, E_tAnd, E_tOr, E_tNot, E_fNotR, E_fNotRx, E_and, E_and1, E_and1x, E_or, E_or1, E_or1x, E_not, E_not1, E_not1x, E_eIf, E_selT, E_call, E_call1, E_call1x, E_to, E_tox, E_callN, E_callN1, E_toN, E_callH, E_ifOwn, E_callH1, E_callH2, E_toH, E_ixO, E_ixO1, E_ixO2, E_move, E_move1, E_ownA, E_ownA1, E_ownV, E_varV, E_seq, E_then, E_thenr, E_thenx, E_thenb, E_thenc, E_seqN, E_thenN, E_next, E_brk, E_ct, E_expr, E_expr1, E_expr1x, E_set, E_set1, E_set1x, E_ret, E_ret1, E_ret1x, E_retN, E_ifS, E_ifS1, E_ifS1x, E_asg, E_asg1, E_asg1x, E_asg2, E_nm, E_nilG, E_consG, E_obind, E_tupG2, E_tupG3, E_tupG4, E_par, E_par1, E_app, E_ifOwnS, E_app1, E_app1x, E_app20, E_app2, E_setIx, E_SI1, E_SI2, E_SI3, E_SI4, E_for, E_for1, E_for1x, E_items, E_items1, E_itL, E_itS, E_itT, E_rng1, E_rng11, E_rng2, E_rng21, E_lc, E_lc1, E_lc1x, E_lc2, E_runF, E_runr, E_runn, E_runx, E_runN, E_runNr, E_runH, E_runHr, E_runHn, E_runH2, E_raise1, E_R1, E_raise2, E_R2, E_R22, E_raise0, E_try, E_try1, E_tryr, E_tryx, E_try2, E_try2f, E_beh, E_behr, E_behb, E_behc, E_sl, E_sl1, E_sl2, E_sl3, E_sl3t, E_oN, E_oS, E_oS1, E_ch, E_ch1, E_ch2, E_ch3t, E_ch3f, E_ch4, E_enum, E_enum1, E_zip, E_zip1, E_zip1t, E_add, E_sub, E_neg, E_lt, E_le, E_gt, E_ge, E_eq, E_ne, E_mod, E_trI, E_trB, E_trN, E_trL, E_trT, E_lenL, E_lenT, E_lenS, E_listS, E_intB, E_intI, E_abs, E_listL, E_listT, E_tupleL, E_tupleT, E_dTup0, E_dTup1, E_dTup2, E_dTup3, E_dTup4, E_dTup5, E_dTup6, E_dTup7, E_dTup8, E_dTup9, E_dTup10, E_dTup11, E_dTup12, E_dLst0, E_dLst1, E_dLst2, E_dLst3, E_dLst4, E_dLst5, E_dLst6, E_dLst7, E_dLst8, E_dLst9, E_dLst10, E_dLst11, E_dLst12, E_gcd, E_isNnon, E_notN, E_isB, E_notB, E_ixL, E_ixT, E_at0, E_at1, E_at2, E_at3, E_at4, E_at5, E_isi_int_N, E_isi_int_B, E_isi_int_I, E_isi_int_S, E_isi_int_T, E_isi_int_L, E_isi_int_C, E_isi_bool_N, E_isi_bool_B, E_isi_bool_I, E_isi_bool_S, E_isi_bool_T, E_isi_bool_L, E_isi_bool_C, E_isi_str_N, E_isi_str_B, E_isi_str_I, E_isi_str_S, E_isi_str_T, E_isi_str_L, E_isi_str_C, E_isi_list_N, E_isi_list_B, E_isi_list_I, E_isi_list_S, E_isi_list_T, E_isi_list_L, E_isi_list_C, E_isi_tuple_N, E_isi_tuple_B, E_isi_tuple_I, E_isi_tuple_S, E_isi_tuple_T, E_isi_tuple_L, E_isi_tuple_C, E_isi2_N, E_isi2_B, E_isi2_I, E_isi2_S, E_isi2_T, E_isi2_L, E_isi2_C, E_isN_B, E_notN_B, E_isN_I, E_notN_I, E_isN_S, E_notN_S, E_isN_T, E_notN_T, E_isN_L, E_notN_L, E_isN_C, E_notN_C, E_isa1, E_isa2, E_lk1, E_xf, E_fam, E_mul, E_fdiv, E_ixN, E_decT, E_decF, List.getElem?_cons_zero, List.getElem?_cons_succ, List.set_cons_zero, List.set_cons_succ, List.length_cons, List.length_nil, List.length_map, List.append_nil, List.cons_append, List.nil_append, entry, List.map_cons, List.map_nil, List.replicate_succ, List.replicate_zero, Nat.reduceAdd, Nat.reduceSub, Nat.reduceLT, Nat.reduceLeDiff, Nat.reduceEqDiff, Nat.zero_add, ↓reduceIte, decide_true, decide_false, Bool.not_true, Bool.not_false, eq_self, ne_eq, not_true_eq_false, not_false_eq_true, Int.reduceEq, Int.reduceToNat, Int.toNat_natCast, Int.reduceNe, Int.reduceLT, Int.reduceLE, Int.reduceNeg, Nat.reduceLeDiff, if_true, if_false, decide_not, Bool.true_and, Bool.and_true, Bool.false_and, Bool.and_false, Bool.not_not, reduceCtorEq, restE, wipeE, Option.getD_some, Option.getD_none, i] <;> rfl)
theorem oddw {o : D} (h : IsOdd o) : f_is_whole [o, .non, .non] = .ok (.bl false) ∧ f_is_whole [o, .int 1, .non] = .ok (.bl false) ∧ f_is_whole [o, .int 0, .int 1] = .ok (.bl false) ∧ f__law_int [o] = .ok (.bl false) := by
  rcases h with rfl | rfl | rfl | rfl | rfl | rfl <;> exact ⟨rfl, rfl, rfl, rfl⟩
theorem isr_o1 {o : D} (y : Int) (h : IsOdd o) : f_is_ratio [.tup [o, .int y]] = .ok (.bl false) ∧ f__law_is_due [.tup [o, .int y]] = .ok (.bl false) := by
  have i : dIsi "tuple" (.tup [o, .int y]) = some (.bl true) := rfl
  obtain ⟨w1, w2, _, w4⟩ := oddw h
  constructor
  · unfold f_is_ratio m_is_ratio
    (simp (disch := first | omega | assumption | (simp only [List.length_cons, List.length_nil, List.length_map, List.length_append, List.length_set]; omega) | (simp only [List.getElem?_cons_zero, List.getElem?_cons_succ]; done)) only [E_c, E_var, E_own, E_bin, E_bin1, E_bin1x, E_bin2, E_bin2x, E_opt, E_un, E_un1, E_un1x, E_nil, E_cons, E_cons1, E_cons1x, E_cons2, E_cons2x, E_aF, E_tB, E_fB, E_fBx, E_tT, E_fT, E_fTx, E_selt, E_self, E_if, E_ifx, E_rOk, E_tAnd, E_tOr, E_tNot, E_fNotR, E_fNotRx, E_and, E_and1, E_and1x, E_or, E_or1, E_or1x, E_not, E_not1, E_not1x, E_eIf, E_selT, E_call, E_call1, E_call1x, E_to, E_tox, E_callN, E_callN1, E_toN, E_callH, E_ifOwn, E_callH1, E_callH2, E_toH, E_ixO, E_ixO1, E_ixO2, E_move, E_move1, E_ownA, E_ownA1, E_ownV, E_varV, E_seq, E_then, E_thenr, E_thenx, E_thenb, E_thenc, E_seqN, E_thenN, E_next, E_brk, E_ct, E_expr, E_expr1, E_expr1x, E_set, E_set1, E_set1x, E_ret, E_ret1, E_ret1x, E_retN, E_ifS, E_ifS1, E_ifS1x, E_asg, E_asg1, E_asg1x, E_asg2, E_nm, E_nilG, E_consG, E_obind, E_tupG2, E_tupG3, E_tupG4, E_par, E_par1, E_app, E_ifOwnS, E_app1, E_app1x, E_app20, E_app2, E_setIx, E_SI1, E_SI2, E_SI3, E_SI4, E_for, E_for1, E_for1x, E_items, E_items1, E_itL, E_itS, E_itT, E_rng1, E_rng11, E_rng2, E_rng21, E_lc, E_lc1, E_lc1x, E_lc2, E_runF, E_runr, E_runn, E_runx, E_runN, E_runNr, E_runH, E_runHr, E_runHn, E_runH2, E_raise1, E_R1, E_raise2, E_R2, E_R22, E_raise0, E_try, E_try1, E_tryr, E_tryx, E_try2, E_try2f, E_beh, E_behr, E_behb, E_behc, E_sl, E_sl1, E_sl2, E_sl3, E_sl3t, E_oN, E_oS, E_oS1, E_ch, E_ch1, E_ch2, E_ch3t, E_ch3f, E_ch4, E_enum, E_enum1, E_zip, E_zip1, E_zip1t, E_add, E_sub, E_neg, E_lt, E_le, E_gt, E_ge, E_eq, E_ne, E_mod, E_trI, E_trB, E_trN, E_trL, E_trT, E_lenL, E_lenT, E_lenS, E_listS, E_intB, E_intI, E_abs, E_listL, E_listT, E_tupleL, E_tupleT, E_dTup0, E_dTup1, E_dTup2, E_dTup3, E_dTup4, E_dTup5, E_dTup6, E_dTup7, E_dTup8, E_dTup9, E_dTup10, E_dTup11, E_dTup12, E_dLst0, E_dLst1, E_dLst2, E_dLst3, E_dLst4, E_dLst5, E_dLst6, E_dLst7, E_dLst8, E_dLst9, E_dLst10, E_dLst11, E_dLst12, E_gcd, E_isNnon, E_notN, E_isB, E_notB, E_ixL, E_ixT, E_at0, E_at1, E_at2, E_at3, E_at4, E_at5, E_isi_int_N, E_isi_int_B, E_isi_int_I, E_isi_int_S, E_isi_int_T, E_isi_int_L, E_isi_int_C, E_isi_bool_N, E_isi_bool_B, E_isi_bool_I, E_isi_bool_S, E_isi_bool_T, E_isi_bool_L, E_isi_bool_C, E_isi_str_N, E_isi_str_B, E_isi_str_I, E_isi_str_S, E_isi_str_T, E_isi_str_L, E_isi_str_C, E_isi_list_N, E_isi_list_B, E_isi_list_I, E_isi_list_S, E_isi_list_T, E_isi_list_L, E_isi_list_C, E_isi_tuple_N, E_isi_tuple_B, E_isi_tuple_I, E_isi_tuple_S, E_isi_tuple_T, E_isi_tuple_L, E_isi_tuple_C, E_isi2_N, E_isi2_B, E_isi2_I, E_isi2_S, E_isi2_T, E_isi2_L, E_isi2_C, E_isN_B, E_notN_B, E_isN_I, E_notN_I, E_isN_S, E_notN_S, E_isN_T, E_notN_T, E_isN_L, E_notN_L, E_isN_C, E_notN_C, E_isa1, E_isa2, E_lk1, E_xf, E_fam, E_mul, E_fdiv, E_ixN, E_decT, E_decF, List.getElem?_cons_zero, List.getElem?_cons_succ, List.set_cons_zero, List.set_cons_succ, List.length_cons, List.length_nil, List.length_map, List.append_nil, List.cons_append, List.nil_append, entry, List.map_cons, List.map_nil, List.replicate_succ, List.replicate_zero, Nat.reduceAdd, Nat.reduceSub, Nat.reduceLT, Nat.reduceLeDiff, Nat.reduceEqDiff, Nat.zero_add, ↓reduceIte, decide_true, decide_false, Bool.not_true, Bool.not_false, eq_self, ne_eq, not_true_eq_false, not_false_eq_true, Int.reduceEq, Int.reduceToNat, Int.toNat_natCast, Int.reduceNe, Int.reduceLT, Int.reduceLE, Int.reduceNeg, Nat.reduceLeDiff, if_true, if_false, decide_not, Bool.true_and, Bool.and_true, Bool.false_and, Bool.and_false, Bool.not_not, reduceCtorEq, restE, wipeE, Option.getD_some, Option.getD_none, i, w1] <;> rfl)
  · unfold f__law_is_due m__law_is_due
    (simp (disch := first | omega | assumption | (simp only [List.length_cons, List.length_nil, List.length_map, List.length_append, List.length_set]; omega) | (simp only [List.getElem?_cons_zero, List.getElem?_cons_succ]; done)) only [E_c, E_var, E_own, E_bin, E_bin1, E_bin1x, E_bin2, E_bin2x, E_opt, E_un, E_un1, E_un1x, E_nil, E_cons, E_cons1, E_cons1x, E_cons2, E_cons2x, E_aF, E_tB, E_fB, E_fBx, E_tT, E_fT, E_fTx, E_selt, E_self, E_if, E_ifx, E_rOk, E_tAnd, E_tOr, E_tNot, E_fNotR, E_fNotRx, E_and, E_and1, E_and1x, E_or, E_or1, E_or1x, E_not, E_not1, E_not1x, E_eIf, E_selT, E_call, E_call1, E_call1x, E_to, E_tox, E_callN, E_callN1, E_toN, E_callH, E_ifOwn, E_callH1, E_callH2, E_toH, E_ixO, E_ixO1, E_ixO2, E_move, E_move1, E_ownA, E_ownA1, E_ownV, E_varV, E_seq, E_then, E_thenr, E_thenx, E_thenb, E_thenc, E_seqN, E_thenN, E_next, E_brk, E_ct, E_expr, E_expr1, E_expr1x, E_set, E_set1, E_set1x, E_ret, E_ret1, E_ret1x, E_retN, E_ifS, E_ifS1, E_ifS1x, E_asg, E_asg1, E_asg1x, E_asg2, E_nm, E_nilG, E_consG, E_obind, E_tupG2, E_tupG3, E_tupG4, E_par, E_par1, E_app, E_ifOwnS, E_app1, E_app1x, E_app20, E_app2, E_setIx, E_SI1, E_SI2, E_SI3, E_SI4, E_for, E_for1, E_for1x, E_items, E_items1, E_itL, E_itS, E_itT, E_rng1, E_rng11, E_rng2, E_rng21, E_lc, E_lc1, E_lc1x, E_lc2, E_runF, E_runr, E_runn, E_runx, E_runN, E_runNr, E_runH, E_runHr, E_runHn, E_runH2, E_raise1, E_R1, E_raise2, E_R2, E_R22, E_raise0, E_try, E_try1, E_tryr, E_tryx, E_try2, E_try2f, E_beh, E_behr, E_behb, E_behc, E_sl, E_sl1, E_sl2, E_sl3, E_sl3t, E_oN, E_oS, E_oS1, E_ch, E_ch1, E_ch2, E_ch3t, E_ch3f, E_ch4, E_enum, E_enum1, E_zip, E_zip1, E_zip1t, E_add, E_sub, E_neg, E_lt, E_le, E_gt, E_ge, E_eq, E_ne, E_mod, E_trI, E_trB, E_trN, E_trL, E_trT, E_lenL, E_lenT, E_lenS, E_listS, E_intB, E_intI, E_abs, E_listL, E_listT, E_tupleL, E_tupleT, E_dTup0, E_dTup1, E_dTup2, E_dTup3, E_dTup4, E_dTup5, E_dTup6, E_dTup7, E_dTup8, E_dTup9, E_dTup10, E_dTup11, E_dTup12, E_dLst0, E_dLst1, E_dLst2, E_dLst3, E_dLst4, E_dLst5, E_dLst6, E_dLst7, E_dLst8, E_dLst9, E_dLst10, E_dLst11, E_dLst12, E_gcd, E_isNnon, E_notN, E_isB, E_notB, E_ixL, E_ixT, E_at0, E_at1, E_at2, E_at3, E_at4, E_at5, E_isi_int_N, E_isi_int_B, E_isi_int_I, E_isi_int_S, E_isi_int_T, E_isi_int_L, E_isi_int_C, E_isi_bool_N, E_isi_bool_B, E_isi_bool_I, E_isi_bool_S, E_isi_bool_T, E_isi_bool_L, E_isi_bool_C, E_isi_str_N, E_isi_str_B, E_isi_str_I, E_isi_str_S, E_isi_str_T, E_isi_str_L, E_isi_str_C, E_isi_list_N, E_isi_list_B, E_isi_list_I, E_isi_list_S, E_isi_list_T, E_isi_list_L, E_isi_list_C, E_isi_tuple_N, E_isi_tuple_B, E_isi_tuple_I, E_isi_tuple_S, E_isi_tuple_T, E_isi_tuple_L, E_isi_tuple_C, E_isi2_N, E_isi2_B, E_isi2_I, E_isi2_S, E_isi2_T, E_isi2_L, E_isi2_C, E_isN_B, E_notN_B, E_isN_I, E_notN_I, E_isN_S, E_notN_S, E_isN_T, E_notN_T, E_isN_L, E_notN_L, E_isN_C, E_notN_C, E_isa1, E_isa2, E_lk1, E_xf, E_fam, E_mul, E_fdiv, E_ixN, E_decT, E_decF, List.getElem?_cons_zero, List.getElem?_cons_succ, List.set_cons_zero, List.set_cons_succ, List.length_cons, List.length_nil, List.length_map, List.append_nil, List.cons_append, List.nil_append, entry, List.map_cons, List.map_nil, List.replicate_succ, List.replicate_zero, Nat.reduceAdd, Nat.reduceSub, Nat.reduceLT, Nat.reduceLeDiff, Nat.reduceEqDiff, Nat.zero_add, ↓reduceIte, decide_true, decide_false, Bool.not_true, Bool.not_false, eq_self, ne_eq, not_true_eq_false, not_false_eq_true, Int.reduceEq, Int.reduceToNat, Int.toNat_natCast, Int.reduceNe, Int.reduceLT, Int.reduceLE, Int.reduceNeg, Nat.reduceLeDiff, if_true, if_false, decide_not, Bool.true_and, Bool.and_true, Bool.false_and, Bool.and_false, Bool.not_not, reduceCtorEq, restE, wipeE, Option.getD_some, Option.getD_none, i, w4] <;> rfl)
theorem isr_o2 {o : D} (x : Int) (h : IsOdd o) : f_is_ratio [.tup [.int x, o]] = .ok (.bl false) ∧ f__law_is_due [.tup [.int x, o]] = .ok (.bl false) := by
  have i : dIsi "tuple" (.tup [.int x, o]) = some (.bl true) := rfl
  obtain ⟨w1, w2, _, w4⟩ := oddw h
  have w : f_is_whole [.int x, .non, .non] = .ok (.bl true) := rfl
  have i1 : f__law_int [.int x] = .ok (.bl true) := rfl
  constructor
  · unfold f_is_ratio m_is_ratio
    (simp (disch := first | omega | assumption | (simp only [List.length_cons, List.length_nil, List.length_map, List.length_append, List.length_set]; omega) | (simp only [List.getElem?_cons_zero, List.getElem?_cons_succ]; done)) only [E_c, E_var, E_own, E_bin, E_bin1, E_bin1x, E_bin2, E_bin2x, E_opt, E_un, E_un1, E_un1x, E_nil, E_cons, E_cons1, E_cons1x, E_cons2, E_cons2x, E_aF, E_tB, E_fB, E_fBx, E_tT, E_fT, E_fTx, E_selt, E_self, E_if, E_ifx, E_rOk, E_tAnd, E_tOr, E_tNot, E_fNotR, E_fNotRx, E_and, E_and1, E_and1x, E_or, E_or1, E_or1x, E_not, E_not1, E_not1x, E_eIf, E_selT, E_call, E_call1, E_call1x, E_to, E_tox, E_callN, E_callN1, E_toN, E_callH, E_ifOwn, E_callH1, E_callH2, E_toH, E_ixO, E_ixO1, E_ixO2, E_move, E_move1, E_ownA, E_ownA1, E_ownV, E_varV, E_seq, E_then, E_thenr, E_thenx, E_thenb, E_thenc, E_seqN, E_thenN, E_next, E_brk, E_ct, E_expr, E_expr1, E_expr1x, E_set, E_set1, E_set1x, E_ret, E_ret1, E_ret1x, E_retN, E_ifS, E_ifS1, E_ifS1x, E_asg, E_asg1, E_asg1x, E_asg2, E_nm, E_nilG, E_consG, E_obind, E_tupG2, E_tupG3, E_tupG4, E_par, E_par1, E_app, E_ifOwnS, E_app1, E_app1x, E_app20, E_app2, E_setIx, E_SI1, E_SI2, E_SI3, E_SI4, E_for, E_for1, E_for1x, E_items, E_items1, E_itL, E_itS, E_itT, E_rng1, E_rng11, E_rng2, E_rng21, E_lc, E_lc1, E_lc1x, E_lc2, E_runF, E_runr, E_runn, E_runx, E_runN, E_runNr, E_runH, E_runHr, E_runHn, E_runH2, E_raise1, E_R1, E_raise2, E_R2, E_R22, E_raise0, E_try, E_try1, E_tryr, E_tryx, E_try2, E_try2f, E_beh, E_behr, E_behb, E_behc, E_sl, E_sl1, E_sl2, E_sl3, E_sl3t, E_oN, E_oS, E_oS1, E_ch, E_ch1, E_ch2, E_ch3t, E_ch3f, E_ch4, E_enum, E_enum1, E_zip, E_zip1, E_zip1t, E_add, E_sub, E_neg, E_lt, E_le, E_gt, E_ge, E_eq, E_ne, E_mod, E_trI, E_trB, E_trN, E_trL, E_trT, E_lenL, E_lenT, E_lenS, E_listS, E_intB, E_intI, E_abs, E_listL, E_listT, E_tupleL, E_tupleT, E_dTup0, E_dTup1, E_dTup2, E_dTup3, E_dTup4, E_dTup5, E_dTup6, E_dTup7, E_dTup8, E_dTup9, E_dTup10, E_dTup11, E_dTup12, E_dLst0, E_dLst1, E_dLst2, E_dLst3, E_dLst4, E_dLst5, E_dLst6, E_dLst7, E_dLst8, E_dLst9, E_dLst10, E_dLst11, E_dLst12, E_gcd, E_isNnon, E_notN, E_isB, E_notB, E_ixL, E_ixT, E_at0, E_at1, E_at2, E_at3, E_at4, E_at5, E_isi_int_N, E_isi_int_B, E_isi_int_I, E_isi_int_S, E_isi_int_T, E_isi_int_L, E_isi_int_C, E_isi_bool_N, E_isi_bool_B, E_isi_bool_I, E_isi_bool_S, E_isi_bool_T, E_isi_bool_L, E_isi_bool_C, E_isi_str_N, E_isi_str_B, E_isi_str_I, E_isi_str_S, E_isi_str_T, E_isi_str_L, E_isi_str_C, E_isi_list_N, E_isi_list_B, E_isi_list_I, E_isi_list_S, E_isi_list_T, E_isi_list_L, E_isi_list_C, E_isi_tuple_N, E_isi_tuple_B, E_isi_tuple_I, E_isi_tuple_S, E_isi_tuple_T, E_isi_tuple_L, E_isi_tuple_C, E_isi2_N, E_isi2_B, E_isi2_I, E_isi2_S, E_isi2_T, E_isi2_L, E_isi2_C, E_isN_B, E_notN_B, E_isN_I, E_notN_I, E_isN_S, E_notN_S, E_isN_T, E_notN_T, E_isN_L, E_notN_L, E_isN_C, E_notN_C, E_isa1, E_isa2, E_lk1, E_xf, E_fam, E_mul, E_fdiv, E_ixN, E_decT, E_decF, List.getElem?_cons_zero, List.getElem?_cons_succ, List.set_cons_zero, List.set_cons_succ, List.length_cons, List.length_nil, List.length_map, List.append_nil, List.cons_append, List.nil_append, entry, List.map_cons, List.map_nil, List.replicate_succ, List.replicate_zero, Nat.reduceAdd, Nat.reduceSub, Nat.reduceLT, Nat.reduceLeDiff, Nat.reduceEqDiff, Nat.zero_add, ↓reduceIte, decide_true, decide_false, Bool.not_true, Bool.not_false, eq_self, ne_eq, not_true_eq_false, not_false_eq_true, Int.reduceEq, Int.reduceToNat, Int.toNat_natCast, Int.reduceNe, Int.reduceLT, Int.reduceLE, Int.reduceNeg, Nat.reduceLeDiff, if_true, if_false, decide_not, Bool.true_and, Bool.and_true, Bool.false_and, Bool.and_false, Bool.not_not, reduceCtorEq, restE, wipeE, Option.getD_some, Option.getD_none, i, w, w2] <;> rfl)
  · unfold f__law_is_due m__law_is_due
    (simp (disch := first | omega | assumption | (simp only [List.length_cons, List.length_nil, List.length_map, List.length_append, List.length_set]; omega) | (simp only [List.getElem?_cons_zero, List.getElem?_cons_succ]; done)) only [E_c, E_var, E_own, E_bin, E_bin1, E_bin1x, E_bin2, E_bin2x, E_opt, E_un, E_un1, E_un1x, E_nil, E_cons, E_cons1, E_cons1x, E_cons2, E_cons2x, E_aF, E_tB, E_fB, E_fBx, E_tT, E_fT, E_fTx, E_selt, E_self, E_if, E_ifx, E_rOk, E_tAnd, E_tOr, E_tNot, E_fNotR, E_fNotRx, E_and, E_and1, E_and1x, E_or, E_or1, E_or1x, E_not, E_not1, E_not1x, E_eIf, E_selT, E_call, E_call1, E_call1x, E_to, E_tox, E_callN, E_callN1, E_toN, E_callH, E_ifOwn, E_callH1, E_callH2, E_toH, E_ixO, E_ixO1, E_ixO2, E_move, E_move1, E_ownA, E_ownA1, E_ownV, E_varV, E_seq, E_then, E_thenr, E_thenx, E_thenb, E_thenc, E_seqN, E_thenN, E_next, E_brk, E_ct, E_expr, E_expr1, E_expr1x, E_set, E_set1, E_set1x, E_ret, E_ret1, E_ret1x, E_retN, E_ifS, E_ifS1, E_ifS1x, E_asg, E_asg1, E_asg1x, E_asg2, E_nm, E_nilG, E_consG, E_obind, E_tupG2, E_tupG3, E_tupG4, E_par, E_par1, E_app, E_ifOwnS, E_app1, E_app1x, E_app20, E_app2, E_setIx, E_SI1, E_SI2, E_SI3, E_SI4, E_for, E_for1, E_for1x, E_items, E_items1, E_itL, E_itS, E_itT, E_rng1, E_rng11, E_rng2, E_rng21, E_lc, E_lc1, E_lc1x, E_lc2, E_runF, E_runr, E_runn, E_runx, E_runN, E_runNr, E_runH, E_runHr, E_runHn, E_runH2, E_raise1, E_R1, E_raise2, E_R2, E_R22, E_raise0, E_try, E_try1, E_tryr, E_tryx, E_try2, E_try2f, E_beh, E_behr, E_behb, E_behc, E_sl, E_sl1, E_sl2, E_sl3, E_sl3t, E_oN, E_oS, E_oS1, E_ch, E_ch1, E_ch2, E_ch3t, E_ch3f, E_ch4, E_enum, E_enum1, E_zip, E_zip1, E_zip1t, E_add, E_sub, E_neg, E_lt, E_le, E_gt, E_ge, E_eq, E_ne, E_mod, E_trI, E_trB, E_trN, E_trL, E_trT, E_lenL, E_lenT, E_lenS, E_listS, E_intB, E_intI, E_abs, E_listL, E_listT, E_tupleL, E_tupleT, E_dTup0, E_dTup1, E_dTup2, E_dTup3, E_dTup4, E_dTup5, E_dTup6, E_dTup7, E_dTup8, E_dTup9, E_dTup10, E_dTup11, E_dTup12, E_dLst0, E_dLst1, E_dLst2, E_dLst3, E_dLst4, E_dLst5, E_dLst6, E_dLst7, E_dLst8, E_dLst9, E_dLst10, E_dLst11, E_dLst12, E_gcd, E_isNnon, E_notN, E_isB, E_notB, E_ixL, E_ixT, E_at0, E_at1, E_at2, E_at3, E_at4, E_at5, E_isi_int_N, E_isi_int_B, E_isi_int_I, E_isi_int_S, E_isi_int_T, E_isi_int_L, E_isi_int_C, E_isi_bool_N, E_isi_bool_B, E_isi_bool_I, E_isi_bool_S, E_isi_bool_T, E_isi_bool_L, E_isi_bool_C, E_isi_str_N, E_isi_str_B, E_isi_str_I, E_isi_str_S, E_isi_str_T, E_isi_str_L, E_isi_str_C, E_isi_list_N, E_isi_list_B, E_isi_list_I, E_isi_list_S, E_isi_list_T, E_isi_list_L, E_isi_list_C, E_isi_tuple_N, E_isi_tuple_B, E_isi_tuple_I, E_isi_tuple_S, E_isi_tuple_T, E_isi_tuple_L, E_isi_tuple_C, E_isi2_N, E_isi2_B, E_isi2_I, E_isi2_S, E_isi2_T, E_isi2_L, E_isi2_C, E_isN_B, E_notN_B, E_isN_I, E_notN_I, E_isN_S, E_notN_S, E_isN_T, E_notN_T, E_isN_L, E_notN_L, E_isN_C, E_notN_C, E_isa1, E_isa2, E_lk1, E_xf, E_fam, E_mul, E_fdiv, E_ixN, E_decT, E_decF, List.getElem?_cons_zero, List.getElem?_cons_succ, List.set_cons_zero, List.set_cons_succ, List.length_cons, List.length_nil, List.length_map, List.append_nil, List.cons_append, List.nil_append, entry, List.map_cons, List.map_nil, List.replicate_succ, List.replicate_zero, Nat.reduceAdd, Nat.reduceSub, Nat.reduceLT, Nat.reduceLeDiff, Nat.reduceEqDiff, Nat.zero_add, ↓reduceIte, decide_true, decide_false, Bool.not_true, Bool.not_false, eq_self, ne_eq, not_true_eq_false, not_false_eq_true, Int.reduceEq, Int.reduceToNat, Int.toNat_natCast, Int.reduceNe, Int.reduceLT, Int.reduceLE, Int.reduceNeg, Nat.reduceLeDiff, if_true, if_false, decide_not, Bool.true_and, Bool.and_true, Bool.false_and, Bool.and_false, Bool.not_not, reduceCtorEq, restE, wipeE, Option.getD_some, Option.getD_none, i, i1, w4] <;> rfl)
theorem isr_nt {o : D} (h : dIsi "tuple" o = some (.bl false)) : f_is_ratio [o] = .ok (.bl false) ∧ f__law_is_due [o] = .ok (.bl false) := by
  constructor
  · unfold f_is_ratio m_is_ratio
    (simp (disch := first | omega | assumption | (simp only [List.length_cons, List.length_nil, List.length_map, List.length_append, List.length_set]; omega) | (simp only [List.getElem?_cons_zero, List.getElem?_cons_succ]; done)) only [E_c, E_var, E_own, E_bin, E_bin1, E_bin1x, E_bin2, E_bin2x, E_opt, E_un, E_un1, E_un1x, E_nil, E_cons, E_cons1, E_cons1x, E_cons2, E_cons2x, E_aF, E_tB, E_fB, E_fBx, E_tT, E_fT, E_fTx, E_selt, E_self, E_if, E_ifx, E_rOk, E_tAnd, E_tOr, E_tNot, E_fNotR, E_fNotRx, E_and, E_and1, E_and1x, E_or, E_or1, E_or1x, E_not, E_not1, E_not1x, E_eIf, E_selT, E_call, E_call1, E_call1x, E_to, E_tox, E_callN, E_callN1, E_toN, E_callH, E_ifOwn, E_callH1, E_callH2, E_toH, E_ixO, E_ixO1, E_ixO2, E_move, E_move1, E_ownA, E_ownA1, E_ownV, E_varV, E_seq, E_then, E_thenr, E_thenx, E_thenb, E_thenc, E_seqN, E_thenN, E_next, E_brk, E_ct, E_expr, E_expr1, E_expr1x, E_set, E_set1, E_set1x, E_ret, E_ret1, E_ret1x, E_retN, E_ifS, E_ifS1, E_ifS1x, E_asg, E_asg1, E_asg1x, E_asg2, E_nm, E_nilG, E_consG, E_obind, E_tupG2, E_tupG3, E_tupG4, E_par, E_par1, E_app, E_ifOwnS, E_app1, E_app1x, E_app20, E_app2, E_setIx, E_SI1, E_SI2, E_SI3, E_SI4, E_for, E_for1, E_for1x, E_items, E_items1, E_itL, E_itS, E_itT, E_rng1, E_rng11, E_rng2, E_rng21, E_lc, E_lc1, E_lc1x, E_lc2, E_runF, E_runr, E_runn, E_runx, E_runN, E_runNr, E_runH, E_runHr, E_runHn, E_runH2, E_raise1, E_R1, E_raise2, E_R2, E_R22, E_raise0, E_try, E_try1, E_tryr, E_tryx, E_try2, E_try2f, E_beh, E_behr, E_behb, E_behc, E_sl, E_sl1, E_sl2, E_sl3, E_sl3t, E_oN, E_oS, E_oS1, E_ch, E_ch1, E_ch2, E_ch3t, E_ch3f, E_ch4, E_enum, E_enum1, E_zip, E_zip1, E_zip1t, E_add, E_sub, E_neg, E_lt, E_le, E_gt, E_ge, E_eq, E_ne, E_mod, E_trI, E_trB, E_trN, E_trL, E_trT, E_lenL, E_lenT, E_lenS, E_listS, E_intB, E_intI, E_abs, E_listL, E_listT, E_tupleL, E_tupleT, E_dTup0, E_dTup1, E_dTup2, E_dTup3, E_dTup4, E_dTup5, E_dTup6, E_dTup7, E_dTup8, E_dTup9, E_dTup10, E_dTup11, E_dTup12, E_dLst0, E_dLst1, E_dLst2, E_dLst3, E_dLst4, E_dLst5, E_dLst6, E_dLst7, E_dLst8, E_dLst9, E_dLst10, E_dLst11, E_dLst12, E_gcd, E_isNnon, E_notN, E_isB, E_notB, E_ixL, E_ixT, E_at0, E_at1, E_at2, E_at3, E_at4, E_at5, E_isi_int_N, E_isi_int_B, E_isi_int_I, E_isi_int_S, E_isi_int_T, E_isi_int_L, E_isi_int_C, E_isi_bool_N, E_isi_bool_B, E_isi_bool_I, E_isi_bool_S, E_isi_bool_T, E_isi_bool_L, E_isi_bool_C, E_isi_str_N, E_isi_str_B, E_isi_str_I, E_isi_str_S, E_isi_str_T, E_isi_str_L, E_isi_str_C, E_isi_list_N, E_isi_list_B, E_isi_list_I, E_isi_list_S, E_isi_list_T, E_isi_list_L, E_isi_list_C, E_isi_tuple_N, E_isi_tuple_B, E_isi_tuple_I, E_isi_tuple_S, E_isi_tuple_T, E_isi_tuple_L, E_isi_tuple_C, E_isi2_N, E_isi2_B, E_isi2_I, E_isi2_S, E_isi2_T, E_isi2_L, E_isi2_C, E_isN_B, E_notN_B, E_isN_I, E_notN_I, E_isN_S, E_notN_S, E_isN_T, E_notN_T, E_isN_L, E_notN_L, E_isN_C, E_notN_C, E_isa1, E_isa2, E_lk1, E_xf, E_fam, E_mul, E_fdiv, E_ixN, E_decT, E_decF, List.getElem?_cons_zero, List.getElem?_cons_succ, List.set_cons_zero, List.set_cons_succ, List.length_cons, List.length_nil, List.length_map, List.append_nil, List.cons_append, List.nil_append, entry, List.map_cons, List.map_nil, List.replicate_succ, List.replicate_zero, Nat.reduceAdd, Nat.reduceSub, Nat.reduceLT, Nat.reduceLeDiff, Nat.reduceEqDiff, Nat.zero_add, ↓reduceIte, decide_true, decide_false, Bool.not_true, Bool.not_false, eq_self, ne_eq, not_true_eq_false, not_false_eq_true, Int.reduceEq, Int.reduceToNat, Int.toNat_natCast, Int.reduceNe, Int.reduceLT, Int.reduceLE, Int.reduceNeg, Nat.reduceLeDiff, if_true, if_false, decide_not, Bool.true_and, Bool.and_true, Bool.false_and, Bool.and_false, Bool.not_not, reduceCtorEq, restE, wipeE, Option.getD_some, Option.getD_none, h] <;> rfl)
  · unfold f__law_is_due m__law_is_due
    (simp (disch := first | omega | assumption | (simp only [List.length_cons, List.length_nil, List.length_map, List.length_append, List.length_set]; omega) | (simp only [List.getElem?_cons_zero, List.getElem?_cons_succ]; done)) only [E_c, E_var, E_own, E_bin, E_bin1, E_bin1x, E_bin2, E_bin2x, E_opt, E_un, E_un1, E_un1x, E_nil, E_cons, E_cons1, E_cons1x, E_cons2, E_cons2x, E_aF, E_tB, E_fB, E_fBx, E_tT, E_fT, E_fTx, E_selt, E_self, E_if, E_ifx, E_rOk, E_tAnd, E_tOr, E_tNot, E_fNotR, E_fNotRx, E_and, E_and1, E_and1x, E_or, E_or1, E_or1x, E_not, E_not1, E_not1x, E_eIf, E_selT, E_call, E_call1, E_call1x, E_to, E_tox, E_callN, E_callN1, E_toN, E_callH, E_ifOwn, E_callH1, E_callH2, E_toH, E_ixO, E_ixO1, E_ixO2, E_move, E_move1, E_ownA, E_ownA1, E_ownV, E_varV, E_seq, E_then, E_thenr, E_thenx, E_thenb, E_thenc, E_seqN, E_thenN, E_next, E_brk, E_ct, E_expr, E_expr1, E_expr1x, E_set, E_set1, E_set1x, E_ret, E_ret1, E_ret1x, E_retN, E_ifS, E_ifS1, E_ifS1x, E_asg, E_asg1, E_asg1x, E_asg2, E_nm, E_nilG, E_consG, E_obind, E_tupG2, E_tupG3, E_tupG4, E_par, E_par1, E_app, E_ifOwnS, E_app1, E_app1x, E_app20, E_app2, E_setIx, E_SI1, E_SI2, E_SI3, E_SI4, E_for, E_for1, E_for1x, E_items, E_items1, E_itL, E_itS, E_itT, E_rng1, E_rng11, E_rng2, E_rng21, E_lc, E_lc1, E_lc1x, E_lc2, E_runF, E_runr, E_runn, E_runx, E_runN, E_runNr, E_runH, E_runHr, E_runHn, E_runH2, E_raise1, E_R1, E_raise2, E_R2, E_R22, E_raise0, E_try, E_try1, E_tryr, E_tryx, E_try2, E_try2f, E_beh, E_behr, E_behb, E_behc, E_sl, E_sl1, E_sl2, E_sl3, E_sl3t, E_oN, E_oS, E_oS1, E_ch, E_ch1, E_ch2, E_ch3t, E_ch3f, E_ch4, E_enum, E_enum1, E_zip, E_zip1, E_zip1t, E_add, E_sub, E_neg, E_lt, E_le, E_gt, E_ge, E_eq, E_ne, E_mod, E_trI, E_trB, E_trN, E_trL, E_trT, E_lenL, E_lenT, E_lenS, E_listS, E_intB, E_intI, E_abs, E_listL, E_listT, E_tupleL, E_tupleT, E_dTup0, E_dTup1, E_dTup2, E_dTup3, E_dTup4, E_dTup5, E_dTup6, E_dTup7, E_dTup8, E_dTup9, E_dTup10, E_dTup11, E_dTup12, E_dLst0, E_dLst1, E_dLst2, E_dLst3, E_dLst4, E_dLst5, E_dLst6, E_dLst7, E_dLst8, E_dLst9, E_dLst10, E_dLst11, E_dLst12, E_gcd, E_isNnon, E_notN, E_isB, E_notB, E_ixL, E_ixT, E_at0, E_at1, E_at2, E_at3, E_at4, E_at5, E_isi_int_N, E_isi_int_B, E_isi_int_I, E_isi_int_S, E_isi_int_T, E_isi_int_L, E_isi_int_C, E_isi_bool_N, E_isi_bool_B, E_isi_bool_I, E_isi_bool_S, E_isi_bool_T, E_isi_bool_L, E_isi_bool_C, E_isi_str_N, E_isi_str_B, E_isi_str_I, E_isi_str_S, E_isi_str_T, E_isi_str_L, E_isi_str_C, E_isi_list_N, E_isi_list_B, E_isi_list_I, E_isi_list_S, E_isi_list_T, E_isi_list_L, E_isi_list_C, E_isi_tuple_N, E_isi_tuple_B, E_isi_tuple_I, E_isi_tuple_S, E_isi_tuple_T, E_isi_tuple_L, E_isi_tuple_C, E_isi2_N, E_isi2_B, E_isi2_I, E_isi2_S, E_isi2_T, E_isi2_L, E_isi2_C, E_isN_B, E_notN_B, E_isN_I, E_notN_I, E_isN_S, E_notN_S, E_isN_T, E_notN_T, E_isN_L, E_notN_L, E_isN_C, E_notN_C, E_isa1, E_isa2, E_lk1, E_xf, E_fam, E_mul, E_fdiv, E_ixN, E_decT, E_decF, List.getElem?_cons_zero, List.getElem?_cons_succ, List.set_cons_zero, List.set_cons_succ, List.length_cons, List.length_nil, List.length_map, List.append_nil, List.cons_append, List.nil_append, entry, List.map_cons, List.map_nil, List.replicate_succ, List.replicate_zero, Nat.reduceAdd, Nat.reduceSub, Nat.reduceLT, Nat.reduceLeDiff, Nat.reduceEqDiff, Nat.zero_add, ↓reduceIte, decide_true, decide_false, Bool.not_true, Bool.not_false, eq_self, ne_eq, not_true_eq_false, not_false_eq_true, Int.reduceEq, Int.reduceToNat, Int.toNat_natCast, Int.reduceNe, Int.reduceLT, Int.reduceLE, Int.reduceNeg, Nat.reduceLeDiff, if_true, if_false, decide_not, Bool.true_and, Bool.and_true, Bool.false_and, Bool.and_false, Bool.not_not, reduceCtorEq, restE, wipeE, Option.getD_some, Option.getD_none, h] <;> rfl)
theorem isr_odd {o : D} (h : IsOdd o) : f_is_ratio [o] = .ok (.bl false) ∧ f__law_is_due [o] = .ok (.bl false) := by
  rcases h with rfl | rfl | rfl | rfl | rfl | rfl
  · exact isr_nt rfl
  · exact isr_nt rfl
  · exact isr_nt rfl
  · exact isr_nt rfl
  · exact isr_nt rfl
  · exact isr_t1 _
theorem isr_all {d : D} (h : IsTh d) : ∃ r : Bool, f_is_ratio [d] = .ok (.bl r) ∧ f__law_is_due [d] = .ok (.bl r) := by
  rcases h with ⟨x, y, rfl⟩ | ⟨x, y, rfl, hx, hy⟩ | ⟨x, y, z, rfl⟩ | ⟨x, rfl⟩ | ⟨o, y, ho, rfl⟩ | ⟨x, o, ho, rfl⟩ | ho
  · exact ⟨_, isr_lst x y⟩
  · exact ⟨_, isr_two hy⟩
  · exact ⟨_, isr_t3 x y z⟩
  · exact ⟨_, isr_t1 _⟩
  · exact ⟨_, isr_o1 y ho⟩
  · exact ⟨_, isr_o2 x ho⟩
  · exact ⟨_, isr_odd ho⟩
theorem seq_all {d : D} (h : IsTh d) : ∃ r : Bool, f_is_sequence [d] = .ok (.bl r) ∧ f__law_seq [d] = .ok (.bl r) := by
  rcases h with ⟨x, y, rfl⟩ | ⟨x, y, rfl, hx, hy⟩ | ⟨x, y, z, rfl⟩ | ⟨x, rfl⟩ | ⟨o, y, ho, rfl⟩ | ⟨x, o, ho, rfl⟩ | ho
  · exact ⟨_, rfl, rfl⟩
  · exact ⟨_, rfl, rfl⟩
  · exact ⟨_, rfl, rfl⟩
  · exact ⟨_, rfl, rfl⟩
  · exact ⟨_, rfl, rfl⟩
  · exact ⟨_, rfl, rfl⟩
  · rcases ho with rfl | rfl | rfl | rfl | rfl | rfl <;> exact ⟨_, rfl, rfl⟩
theorem pl_kinds {l : List D} (g : Good l) : ∃ l', f__law_kinds l [] = .ok (.bl true, l') ∧ Good l' := by
  obtain ⟨a, b, l1, e1, b1, gab, ha, hb, g1⟩ := pl_drawn g
  obtain ⟨th, l2, e2, hth, g2⟩ := pl_spoiled g1 ha hb
  obtain ⟨x, l3, e3, hx, g3⟩ := pl_sized g2
  obtain ⟨i, l4, e4, i0, i1, g4⟩ := pl_take g3 (many := 4) (by decide) (bd_of (N := 7) (by omega) (by omega) (by decide))
  obtain ⟨j, l5, e5, j0, j1, g5⟩ := pl_take g4 (many := 4) (by decide) (bd_of (N := 7) (by omega) (by omega) (by decide))
  obtain ⟨o, l6, e6, ho, g6⟩ := pl_odd g5
  have lim : ∀ k : Int, 0 ≤ k → k < 4 → ∃ d, dIx (.tup [.non, .int x, .int (x + 1), .int (x - 1)]) (.int k) = some d ∧ (d = .non ∨ ∃ z, d = .int z) := fun k k0 k1 => by
    rcases four k0 k1 with rfl | rfl | rfl | rfl
    · exact ⟨_, rfl, .inl rfl⟩
    · exact ⟨_, rfl, .inr ⟨_, rfl⟩⟩
    · exact ⟨_, rfl, .inr ⟨_, rfl⟩⟩
    · exact ⟨_, rfl, .inr ⟨_, rfl⟩⟩
  obtain ⟨low, q1, hlow⟩ := lim i i0 i1
  obtain ⟨high, q2, hhigh⟩ := lim j j0 j1
  obtain ⟨r, w1, hdue⟩ := isw3 (x := x) hlow hhigh
  obtain ⟨r1, p1, p2⟩ := isr_all hth
  obtain ⟨r2, p3, p4⟩ := seq_all hth
  obtain ⟨w2, _, w3, _⟩ := oddw ho
  have w4 : f_is_whole [.int x, .non, .non] = .ok (.bl true) := rfl
  have w5 : f_is_whole [.int x, .non, .int (x - 1)] = .ok (.bl false) := by
    have e : f_is_whole [.int x, .non, .int (x - 1)] = .ok (.bl (decide (x ≤ x - 1))) := rfl
    rw [e, decide_eq_false (by omega)]
  have p5 : f_is_ratio [R2 a b] = .ok (.bl true) := by
    rw [(isr_two (x := a) (hb.mono (by decide))).1, decide_eq_true b1, Bool.true_and, decide_eq_true (by rw [gab]; rfl)]
  have p6 : f_is_sequence [.lst [R2 a b]] = .ok (.bl true) := rfl
  have y1 := pl_yes r1
  have y2 := pl_yes r2
  have y3 := pl_yes r
  refine ⟨l6, ?_, g6⟩
  unfold f__law_kinds m__law_kinds
  (simp (disch := first | omega | assumption | (simp only [List.length_cons, List.length_nil, List.length_map, List.length_append, List.length_set]; omega) | (simp only [List.getElem?_cons_zero, List.getElem?_cons_succ]; done)) only [E_c, E_var, E_own, E_bin, E_bin1, E_bin1x, E_bin2, E_bin2x, E_opt, E_un, E_un1, E_un1x, E_nil, E_cons, E_cons1, E_cons1x, E_cons2, E_cons2x, E_aF, E_tB, E_fB, E_fBx, E_tT, E_fT, E_fTx, E_selt, E_self, E_if, E_ifx, E_rOk, E_tAnd, E_tOr, E_tNot, E_fNotR, E_fNotRx, E_and, E_and1, E_and1x, E_or, E_or1, E_or1x, E_not, E_not1, E_not1x, E_eIf, E_selT, E_call, E_call1, E_call1x, E_to, E_tox, E_callN, E_callN1, E_toN, E_callH, E_ifOwn, E_callH1, E_callH2, E_toH, E_ixO, E_ixO1, E_ixO2, E_move, E_move1, E_ownA, E_ownA1, E_ownV, E_varV, E_seq, E_then, E_thenr, E_thenx, E_thenb, E_thenc, E_seqN, E_thenN, E_next, E_brk, E_ct, E_expr, E_expr1, E_expr1x, E_set, E_set1, E_set1x, E_ret, E_ret1, E_ret1x, E_retN, E_ifS, E_ifS1, E_ifS1x, E_asg, E_asg1, E_asg1x, E_asg2, E_nm, E_nilG, E_consG, E_obind, E_tupG2, E_tupG3, E_tupG4, E_par, E_par1, E_app, E_ifOwnS, E_app1, E_app1x, E_app20, E_app2, E_setIx, E_SI1, E_SI2, E_SI3, E_SI4, E_for, E_for1, E_for1x, E_items, E_items1, E_itL, E_itS, E_itT, E_rng1, E_rng11, E_rng2, E_rng21, E_lc, E_lc1, E_lc1x, E_lc2, E_runF, E_runr, E_runn, E_runx, E_runN, E_runNr, E_runH, E_runHr, E_runHn, E_runH2, E_raise1, E_R1, E_raise2, E_R2, E_R22, E_raise0, E_try, E_try1, E_tryr, E_tryx, E_try2, E_try2f, E_beh, E_behr, E_behb, E_behc, E_sl, E_sl1, E_sl2, E_sl3, E_sl3t, E_oN, E_oS, E_oS1, E_ch, E_ch1, E_ch2, E_ch3t, E_ch3f, E_ch4, E_enum, E_enum1, E_zip, E_zip1, E_zip1t, E_add, E_sub, E_neg, E_lt, E_le, E_gt, E_ge, E_eq, E_ne, E_mod, E_trI, E_trB, E_trN, E_trL, E_trT, E_lenL, E_lenT, E_lenS, E_listS, E_intB, E_intI, E_abs, E_listL, E_listT, E_tupleL, E_tupleT, E_dTup0, E_dTup1, E_dTup2, E_dTup3, E_dTup4, E_dTup5, E_dTup6, E_dTup7, E_dTup8, E_dTup9, E_dTup10, E_dTup11, E_dTup12, E_dLst0, E_dLst1, E_dLst2, E_dLst3, E_dLst4, E_dLst5, E_dLst6, E_dLst7, E_dLst8, E_dLst9, E_dLst10, E_dLst11, E_dLst12, E_gcd, E_isNnon, E_notN, E_isB, E_notB, E_ixL, E_ixT, E_at0, E_at1, E_at2, E_at3, E_at4, E_at5, E_isi_int_N, E_isi_int_B, E_isi_int_I, E_isi_int_S, E_isi_int_T, E_isi_int_L, E_isi_int_C, E_isi_bool_N, E_isi_bool_B, E_isi_bool_I, E_isi_bool_S, E_isi_bool_T, E_isi_bool_L, E_isi_bool_C, E_isi_str_N, E_isi_str_B, E_isi_str_I, E_isi_str_S, E_isi_str_T, E_isi_str_L, E_isi_str_C, E_isi_list_N, E_isi_list_B, E_isi_list_I, E_isi_list_S, E_isi_list_T, E_isi_list_L, E_isi_list_C, E_isi_tuple_N, E_isi_tuple_B, E_isi_tuple_I, E_isi_tuple_S, E_isi_tuple_T, E_isi_tuple_L, E_isi_tuple_C, E_isi2_N, E_isi2_B, E_isi2_I, E_isi2_S, E_isi2_T, E_isi2_L, E_isi2_C, E_isN_B, E_notN_B, E_isN_I, E_notN_I, E_isN_S, E_notN_S, E_isN_T, E_notN_T, E_isN_L, E_notN_L, E_isN_C, E_notN_C, E_isa1, E_isa2, E_lk1, E_xf, E_fam, E_mul, E_fdiv, E_ixN, E_decT, E_decF, List.getElem?_cons_zero, List.getElem?_cons_succ, List.set_cons_zero, List.set_cons_succ, List.length_cons, List.length_nil, List.length_map, List.append_nil, List.cons_append, List.nil_append, entry, List.map_cons, List.map_nil, List.replicate_succ, List.replicate_zero, Nat.reduceAdd, Nat.reduceSub, Nat.reduceLT, Nat.reduceLeDiff, Nat.reduceEqDiff, Nat.zero_add, ↓reduceIte, decide_true, decide_false, Bool.not_true, Bool.not_false, eq_self, ne_eq, not_true_eq_false, not_false_eq_true, Int.reduceEq, Int.reduceToNat, Int.toNat_natCast, Int.reduceNe, Int.reduceLT, Int.reduceLE, Int.reduceNeg, Nat.reduceLeDiff, if_true, if_false, decide_not, Bool.true_and, Bool.and_true, Bool.false_and, Bool.and_false, Bool.not_not, reduceCtorEq, restE, wipeE, Option.getD_some, Option.getD_none, ↓hdue, e1, e2, e3, e4, e5, e6, q1, q2, w1, p1, p2, p3, p4, w2, w3, w4, w5, p5, p6, y1, y2, y3] <;> rfl)
end Law

set_option Elab.async false
set_option linter.all false
set_option maxRecDepth 100000
set_option maxHeartbeats 4000000
noncomputable section
namespace Law
open PySem L2 Py
theorem lawStep {x d : D} {l : List D} (g : Good l) : ∃ l', l1_law [some x, some (.lst l), some d] = .nx [some x, some (.lst l'), some d] ∧ Good l' := by
  obtain ⟨l1, e1, g1⟩ := pl_couples g
  obtain ⟨l2, e2, g2⟩ := pl_rows g1
  obtain ⟨l3, e3, g3⟩ := pl_kinds g2
  obtain ⟨l4, e4, g4⟩ := pl_makings g3
  obtain ⟨l5, e5, g5⟩ := pl_powers g4
  refine ⟨l5, ?_, g5⟩
  unfold l1_law
  (simp (disch := first | omega | assumption | (simp only [List.length_cons, List.length_nil, List.length_map, List.length_append, List.length_set]; omega) | (simp only [List.getElem?_cons_zero, List.getElem?_cons_succ]; done)) only [E_c, E_var, E_own, E_bin, E_bin1, E_bin1x, E_bin2, E_bin2x, E_opt, E_un, E_un1, E_un1x, E_nil, E_cons, E_cons1, E_cons1x, E_cons2, E_cons2x, E_aF, E_tB, E_fB, E_fBx, E_tT, E_fT, E_fTx, E_selt, E_self, E_if, E_ifx, E_rOk, E_tAnd, E_tOr, E_tNot, E_fNotR, E_fNotRx, E_and, E_and1, E_and1x, E_or, E_or1, E_or1x, E_not, E_not1, E_not1x, E_eIf, E_selT, E_call, E_call1, E_call1x, E_to, E_tox, E_callN, E_callN1, E_toN, E_callH, E_ifOwn, E_callH1, E_callH2, E_toH, E_ixO, E_ixO1, E_ixO2, E_move, E_move1, E_ownA, E_ownA1, E_ownV, E_varV, E_seq, E_then, E_thenr, E_thenx, E_thenb, E_thenc, E_seqN, E_thenN, E_next, E_brk, E_ct, E_expr, E_expr1, E_expr1x, E_set, E_set1, E_set1x, E_ret, E_ret1, E_ret1x, E_retN, E_ifS, E_ifS1, E_ifS1x, E_asg, E_asg1, E_asg1x, E_asg2, E_nm, E_nilG, E_consG, E_obind, E_tupG2, E_tupG3, E_tupG4, E_par, E_par1, E_app, E_ifOwnS, E_app1, E_app1x, E_app20, E_app2, E_setIx, E_SI1, E_SI2, E_SI3, E_SI4, E_for, E_for1, E_for1x, E_items, E_items1, E_itL, E_itS, E_itT, E_rng1, E_rng11, E_rng2, E_rng21, E_lc, E_lc1, E_lc1x, E_lc2, E_runF, E_runr, E_runn, E_runx, E_runN, E_runNr, E_runH, E_runHr, E_runHn, E_runH2, E_raise1, E_R1, E_raise2, E_R2, E_R22, E_raise0, E_try, E_try1, E_tryr, E_tryx, E_try2, E_try2f, E_beh, E_behr, E_behb, E_behc, E_sl, E_sl1, E_sl2, E_sl3, E_sl3t, E_oN, E_oS, E_oS1, E_ch, E_ch1, E_ch2, E_ch3t, E_ch3f, E_ch4, E_enum, E_enum1, E_zip, E_zip1, E_zip1t, E_add, E_sub, E_neg, E_lt, E_le, E_gt, E_ge, E_eq, E_ne, E_mod, E_trI, E_trB, E_trN, E_trL, E_trT, E_lenL, E_lenT, E_lenS, E_listS, E_intB, E_intI, E_abs, E_listL, E_listT, E_tupleL, E_tupleT, E_dTup0, E_dTup1, E_dTup2, E_dTup3, E_dTup4, E_dTup5, E_dTup6, E_dTup7, E_dTup8, E_dTup9, E_dTup10, E_dTup11, E_dTup12, E_dLst0, E_dLst1, E_dLst2, E_dLst3, E_dLst4, E_dLst5, E_dLst6, E_dLst7, E_dLst8, E_dLst9, E_dLst10, E_dLst11, E_dLst12, E_gcd, E_isNnon, E_notN, E_isB, E_notB, E_ixL, E_ixT, E_at0, E_at1, E_at2, E_at3, E_at4, E_at5, E_isi_int_N, E_isi_int_B, E_isi_int_I, E_isi_int_S, E_isi_int_T, E_isi_int_L, E_isi_int_C, E_isi_bool_N, E_isi_bool_B, E_isi_bool_I, E_isi_bool_S, E_isi_bool_T, E_isi_bool_L, E_isi_bool_C, E_isi_str_N, E_isi_str_B, E_isi_str_I, E_isi_str_S, E_isi_str_T, E_isi_str_L, E_isi_str_C, E_isi_list_N, E_isi_list_B, E_isi_list_I, E_isi_list_S, E_isi_list_T, E_isi_list_L, E_isi_list_C, E_isi_tuple_N, E_isi_tuple_B, E_isi_tuple_I, E_isi_tuple_S, E_isi_tuple_T, E_isi_tuple_L, E_isi_tuple_C, E_isi2_N, E_isi2_B, E_isi2_I, E_isi2_S, E_isi2_T, E_isi2_L, E_isi2_C, E_isN_B, E_notN_B, E_isN_I, E_notN_I, E_isN_S, E_notN_S, E_isN_T, E_notN_T, E_isN_L, E_notN_L, E_isN_C, E_notN_C, E_isa1, E_isa2, E_lk1, E_xf, E_fam, E_mul, E_fdiv, E_ixN, E_decT, E_decF, List.getElem?_cons_zero, List.getElem?_cons_succ, List.set_cons_zero, List.set_cons_succ, List.length_cons, List.length_nil, List.length_map, List.append_nil, List.cons_append, List.nil_append, entry, List.map_cons, List.map_nil, List.replicate_succ, List.replicate_zero, Nat.reduceAdd, Nat.reduceSub, Nat.reduceLT, Nat.reduceLeDiff, Nat.reduceEqDiff, Nat.zero_add, ↓reduceIte, decide_true, decide_false, Bool.not_true, Bool.not_false, eq_self, ne_eq, not_true_eq_false, not_false_eq_true, Int.reduceEq, Int.reduceToNat, Int.toNat_natCast, Int.reduceNe, Int.reduceLT, Int.reduceLE, Int.reduceNeg, Nat.reduceLeDiff, if_true, if_false, decide_not, Bool.true_and, Bool.and_true, Bool.false_and, Bool.and_false, Bool.not_not, reduceCtorEq, restE, wipeE, Option.getD_some, Option.getD_none, e1, e2, e3, e4, e5] <;> rfl)
theorem lawLoop {x : D} : ∀ (ds : List D) (l : List D) (z : Option D), Good l → ∃ l' z', forL (nmG 2) l1_law ds [some x, some (.lst l), z] = .nx [some x, some (.lst l'), z']
  | [], l, z, _ => ⟨l, z, rfl⟩
  | d :: ds, l, z, g => by
    obtain ⟨l1, e1, g1⟩ := lawStep (x := x) (d := d) g
    obtain ⟨l2, z2, e2⟩ := lawLoop ds l1 (some d) g1
    refine ⟨l2, z2, ?_⟩
    rw [← e2]
    show (match l1_law [some x, some (.lst l), some d] with | .nx ρ2 => forL (nmG 2) l1_law ds ρ2 | .ct ρ2 => forL (nmG 2) l1_law ds ρ2 | .brk ρ2 => .nx ρ2 | .ret d ρ2 => .ret d ρ2 | .exc e ρ2 => .exc e ρ2 | .stuck => .stuck) = _
    rw [e1]
theorem law_true (ns : List Int) (hl : ns.length ≤ 63) : f_law [.scr ns] = .ok (.bl true) := by
  obtain ⟨l, e1, g⟩ := pl_hand ns hl
  obtain ⟨l', z', e2⟩ := lawLoop (x := .scr ns) (rngD 0 4) l none g
  have s1 := pl_same (a := 0) (b := 1)
  have s2 := pl_same (a := 1) (b := 1)
  have hr : (-(2 ^ 62) ≤ (4 : Int) ∧ (4 : Int) < 2 ^ 62) := by decide
  unfold f_law m_law
  (simp (disch := first | omega | assumption | (simp only [List.length_cons, List.length_nil, List.length_map, List.length_append, List.length_set]; omega) | (simp only [List.getElem?_cons_zero, List.getElem?_cons_succ]; done)) only [E_c, E_var, E_own, E_bin, E_bin1, E_bin1x, E_bin2, E_bin2x, E_opt, E_un, E_un1, E_un1x, E_nil, E_cons, E_cons1, E_cons1x, E_cons2, E_cons2x, E_aF, E_tB, E_fB, E_fBx, E_tT, E_fT, E_fTx, E_selt, E_self, E_if, E_ifx, E_rOk, E_tAnd, E_tOr, E_tNot, E_fNotR, E_fNotRx, E_and, E_and1, E_and1x, E_or, E_or1, E_or1x, E_not, E_not1, E_not1x, E_eIf, E_selT, E_call, E_call1, E_call1x, E_to, E_tox, E_callN, E_callN1, E_toN, E_callH, E_ifOwn, E_callH1, E_callH2, E_toH, E_ixO, E_ixO1, E_ixO2, E_move, E_move1, E_ownA, E_ownA1, E_ownV, E_varV, E_seq, E_then, E_thenr, E_thenx, E_thenb, E_thenc, E_seqN, E_thenN, E_next, E_brk, E_ct, E_expr, E_expr1, E_expr1x, E_set, E_set1, E_set1x, E_ret, E_ret1, E_ret1x, E_retN, E_ifS, E_ifS1, E_ifS1x, E_asg, E_asg1, E_asg1x, E_asg2, E_nm, E_nilG, E_consG, E_obind, E_tupG2, E_tupG3, E_tupG4, E_par, E_par1, E_app, E_ifOwnS, E_app1, E_app1x, E_app20, E_app2, E_setIx, E_SI1, E_SI2, E_SI3, E_SI4, E_for, E_for1, E_for1x, E_items, E_items1, E_itL, E_itS, E_itT, E_rng1, E_rng11, E_rng2, E_rng21, E_lc, E_lc1, E_lc1x, E_lc2, E_runF, E_runr, E_runn, E_runx, E_runN, E_runNr, E_runH, E_runHr, E_runHn, E_runH2, E_raise1, E_R1, E_raise2, E_R2, E_R22, E_raise0, E_try, E_try1, E_tryr, E_tryx, E_try2, E_try2f, E_beh, E_behr, E_behb, E_behc, E_sl, E_sl1, E_sl2, E_sl3, E_sl3t, E_oN, E_oS, E_oS1, E_ch, E_ch1, E_ch2, E_ch3t, E_ch3f, E_ch4, E_enum, E_enum1, E_zip, E_zip1, E_zip1t, E_add, E_sub, E_neg, E_lt, E_le, E_gt, E_ge, E_eq, E_ne, E_mod, E_trI, E_trB, E_trN, E_trL, E_trT, E_lenL, E_lenT, E_lenS, E_listS, E_intB, E_intI, E_abs, E_listL, E_listT, E_tupleL, E_tupleT, E_dTup0, E_dTup1, E_dTup2, E_dTup3, E_dTup4, E_dTup5, E_dTup6, E_dTup7, E_dTup8, E_dTup9, E_dTup10, E_dTup11, E_dTup12, E_dLst0, E_dLst1, E_dLst2, E_dLst3, E_dLst4, E_dLst5, E_dLst6, E_dLst7, E_dLst8, E_dLst9, E_dLst10, E_dLst11, E_dLst12, E_gcd, E_isNnon, E_notN, E_isB, E_notB, E_ixL, E_ixT, E_at0, E_at1, E_at2, E_at3, E_at4, E_at5, E_isi_int_N, E_isi_int_B, E_isi_int_I, E_isi_int_S, E_isi_int_T, E_isi_int_L, E_isi_int_C, E_isi_bool_N, E_isi_bool_B, E_isi_bool_I, E_isi_bool_S, E_isi_bool_T, E_isi_bool_L, E_isi_bool_C, E_isi_str_N, E_isi_str_B, E_isi_str_I, E_isi_str_S, E_isi_str_T, E_isi_str_L, E_isi_str_C, E_isi_list_N, E_isi_list_B, E_isi_list_I, E_isi_list_S, E_isi_list_T, E_isi_list_L, E_isi_list_C, E_isi_tuple_N, E_isi_tuple_B, E_isi_tuple_I, E_isi_tuple_S, E_isi_tuple_T, E_isi_tuple_L, E_isi_tuple_C, E_isi2_N, E_isi2_B, E_isi2_I, E_isi2_S, E_isi2_T, E_isi2_L, E_isi2_C, E_isN_B, E_notN_B, E_isN_I, E_notN_I, E_isN_S, E_notN_S, E_isN_T, E_notN_T, E_isN_L, E_notN_L, E_isN_C, E_notN_C, E_isa1, E_isa2, E_lk1, E_xf, E_fam, E_mul, E_fdiv, E_ixN, E_decT, E_decF, List.getElem?_cons_zero, List.getElem?_cons_succ, List.set_cons_zero, List.set_cons_succ, List.length_cons, List.length_nil, List.length_map, List.append_nil, List.cons_append, List.nil_append, entry, List.map_cons, List.map_nil, List.replicate_succ, List.replicate_zero, Nat.reduceAdd, Nat.reduceSub, Nat.reduceLT, Nat.reduceLeDiff, Nat.reduceEqDiff, Nat.zero_add, ↓reduceIte, decide_true, decide_false, Bool.not_true, Bool.not_false, eq_self, ne_eq, not_true_eq_false, not_false_eq_true, Int.reduceEq, Int.reduceToNat, Int.toNat_natCast, Int.reduceNe, Int.reduceLT, Int.reduceLE, Int.reduceNeg, Nat.reduceLeDiff, if_true, if_false, decide_not, Bool.true_and, Bool.and_true, Bool.false_and, Bool.and_false, Bool.not_not, reduceCtorEq, restE, wipeE, Option.getD_some, Option.getD_none, e1, e2, s1, s2, hr] <;> rfl)
end Law

set_option Elab.async false
set_option linter.all false
set_option maxRecDepth 100000
set_option maxHeartbeats 4000000
noncomputable section
namespace Law
open PySem L2 Py
open PyProof.Rows (envOfC)
/-! ## the head: facts by names, the run, the end -/
def gm (K : PySem.W.Frag) : Gm := ⟨K, fun c => List.getD [He.ga K "NestError", He.ga K "BadRatio", He.ga K "ZERO", He.ga K "ONE"] c 0⟩
theorem sci_BadRatio : FnScope ["self", "what"] ["self", "what"] (defScope si_BadRatio) := ⟨rfl, rfl, rfl, by decide +kernel, rfl, by decide +kernel, by decide +kernel⟩
theorem facts {P : Program} {w : World} {K : PySem.W.Frag} {h : Heap} {mg : Str → Option Value} {f : Addr} (X : K.In h) (G : h.Ns mainGlobals mg) (hfa : mg ("law" : Str) = some (.ref f)) (c : He.SaysX [] fnL [] [] (fun K => faL.all fun f => f K) w h K) :
    ∃ fd : FuncData, (∀ (s : Shared) (v : Value), BindsTo s fd ⟨[v], []⟩ [("script", v)]) ∧ ∀ base : Heap, K.In base → base.Ns mainGlobals mg → FnOk P w K mg base (L2.CX P w) 6 f fd ["script"] (spP (gm K) 1 f_law) := by
  have T : Tx (gm K) mg := {
    c_BadRatio := glo_at X G (fact_at c 0 (f := fGlo "BadRatio"))
    c_NestError := glo_at X G (fact_at c 1 (f := fGlo "NestError"))
    fam_BadRatio := List.forall_mem_cons.mpr ⟨List.forall_mem_cons.mpr ⟨kit_at (fact_at c 2 (f := fKit "BadRatio" (fun K => .ref (He.ga K "NestError")))), List.forall_mem_cons.mpr ⟨kit_at (fact_at c 3 (f := fKit "BadRatio" (fun K => .type "ValueError"))), List.forall_mem_nil _⟩⟩, List.forall_mem_nil _⟩
    i_BadRatio := List.forall_mem_cons.mpr ⟨exm_at (fact_at c 4 (f := fExm "NestError" (fun K => .ref (He.ga K "BadRatio")) false)), List.forall_mem_cons.mpr ⟨exm_at (fact_at c 5 (f := fExm "BadRatio" (fun K => .ref (He.ga K "BadRatio")) true)), List.forall_mem_nil _⟩⟩
    k_ONE := glo_at X G (fact_at c 6 (f := fGlo "ONE"))
    k_ZERO := glo_at X G (fact_at c 7 (f := fGlo "ZERO"))
    n_ValueError := free_at X G (fact_at c 8 (f := fFree "ValueError"))
    n_abs := free_at X G (fact_at c 9 (f := fFree "abs"))
    n_bool := free_at X G (fact_at c 10 (f := fFree "bool"))
    n_gcd := blt_at X G (fact_at c 11 (f := fBlt "gcd" "math.gcd"))
    n_int := free_at X G (fact_at c 12 (f := fFree "int"))
    n_isinstance := free_at X G (fact_at c 13 (f := fFree "isinstance"))
    n_lcm := blt_at X G (fact_at c 14 (f := fBlt "lcm" "math.lcm"))
    n_len := free_at X G (fact_at c 15 (f := fFree "len"))
    n_list := free_at X G (fact_at c 16 (f := fFree "list"))
    n_range := free_at X G (fact_at c 17 (f := fFree "range"))
    n_tuple := free_at X G (fact_at c 18 (f := fFree "tuple"))
    no_BadRatio_what := He.eqO_ok (fact_at c 19 (f := fNo "BadRatio" "what"))
    v_ONE := fun H => fDat_ok (Γ := gm K) (fact_at c 20 (f := fDat "ONE" (.tup [(.int 1), (.int 1)]))) H
    v_ZERO := fun H => fDat_ok (Γ := gm K) (fact_at c 21 (f := fDat "ZERO" (.tup [(.int 0), (.int 1)]))) H
    xf_BadRatio := xfB_ok (fact_at c 22 (f := fXf "BadRatio")) }
  obtain ⟨fd_is_whole, F_is_whole⟩ := def_at c 0
  have S_is_whole : Stands (gm K) mg "is_whole" "is_whole" st_is_whole [.non, .non] (He.ga K "is_whole") := ⟨fd_is_whole, F_is_whole, glo_at X G (fact_at c 23 (f := fGlo "is_whole"))⟩
  obtain ⟨fd_is_sequence, F_is_sequence⟩ := def_at c 1
  have S_is_sequence : Stands (gm K) mg "is_sequence" "is_sequence" st_is_sequence [] (He.ga K "is_sequence") := ⟨fd_is_sequence, F_is_sequence, glo_at X G (fact_at c 24 (f := fGlo "is_sequence"))⟩
  obtain ⟨fd_is_ratio, F_is_ratio⟩ := def_at c 2
  have S_is_ratio : Stands (gm K) mg "is_ratio" "is_ratio" st_is_ratio [] (He.ga K "is_ratio") := ⟨fd_is_ratio, F_is_ratio, glo_at X G (fact_at c 25 (f := fGlo "is_ratio"))⟩
  obtain ⟨fd_lowest_terms, F_lowest_terms⟩ := def_at c 3
  have S_lowest_terms : Stands (gm K) mg "lowest_terms" "lowest_terms" st_lowest_terms [] (He.ga K "lowest_terms") := ⟨fd_lowest_terms, F_lowest_terms, glo_at X G (fact_at c 26 (f := fGlo "lowest_terms"))⟩
  obtain ⟨fd_make_ratio, F_make_ratio⟩ := def_at c 4
  have S_make_ratio : Stands (gm K) mg "make_ratio" "make_ratio" st_make_ratio [(.int 1)] (He.ga K "make_ratio") := ⟨fd_make_ratio, F_make_ratio, glo_at X G (fact_at c 27 (f := fGlo "make_ratio"))⟩
  obtain ⟨fd_add_ratios, F_add_ratios⟩ := def_at c 5
  have S_add_ratios : Stands (gm K) mg "add_ratios" "add_ratios" st_add_ratios [] (He.ga K "add_ratios") := ⟨fd_add_ratios, F_add_ratios, glo_at X G (fact_at c 28 (f := fGlo "add_ratios"))⟩
  obtain ⟨fd_subtract_ratios, F_subtract_ratios⟩ := def_at c 6
  have S_subtract_ratios : Stands (gm K) mg "subtract_ratios" "subtract_ratios" st_subtract_ratios [] (He.ga K "subtract_ratios") := ⟨fd_subtract_ratios, F_subtract_ratios, glo_at X G (fact_at c 29 (f := fGlo "subtract_ratios"))⟩
  obtain ⟨fd_multiply_ratios, F_multiply_ratios⟩ := def_at c 7
  have S_multiply_ratios : Stands (gm K) mg "multiply_ratios" "multiply_ratios" st_multiply_ratios [] (He.ga K "multiply_ratios") := ⟨fd_multiply_ratios, F_multiply_ratios, glo_at X G (fact_at c 30 (f := fGlo "multiply_ratios"))⟩
  obtain ⟨fd_divide_ratios, F_divide_ratios⟩ := def_at c 8
  have S_divide_ratios : Stands (gm K) mg "divide_ratios" "divide_ratios" st_divide_ratios [] (He.ga K "divide_ratios") := ⟨fd_divide_ratios, F_divide_ratios, glo_at X G (fact_at c 31 (f := fGlo "divide_ratios"))⟩
  obtain ⟨fd_compare_ratios, F_compare_ratios⟩ := def_at c 9
  have S_compare_ratios : Stands (gm K) mg "compare_ratios" "compare_ratios" st_compare_ratios [] (He.ga K "compare_ratios") := ⟨fd_compare_ratios, F_compare_ratios, glo_at X G (fact_at c 32 (f := fGlo "compare_ratios"))⟩
  obtain ⟨fd_sum_ratios, F_sum_ratios⟩ := def_at c 10
  have S_sum_ratios : Stands (gm K) mg "sum_ratios" "sum_ratios" st_sum_ratios [] (He.ga K "sum_ratios") := ⟨fd_sum_ratios, F_sum_ratios, glo_at X G (fact_at c 33 (f := fGlo "sum_ratios"))⟩
  obtain ⟨fd_floor_ratio, F_floor_ratio⟩ := def_at c 11
  have S_floor_ratio : Stands (gm K) mg "floor_ratio" "floor_ratio" st_floor_ratio [] (He.ga K "floor_ratio") := ⟨fd_floor_ratio, F_floor_ratio, glo_at X G (fact_at c 34 (f := fGlo "floor_ratio"))⟩
  obtain ⟨fd_common_bottom, F_common_bottom⟩ := def_at c 12
  have S_common_bottom : Stands (gm K) mg "common_bottom" "common_bottom" st_common_bottom [] (He.ga K "common_bottom") := ⟨fd_common_bottom, F_common_bottom, glo_at X G (fact_at c 35 (f := fGlo "common_bottom"))⟩
  obtain ⟨fd_whole_power, F_whole_power⟩ := def_at c 13
  have S_whole_power : Stands (gm K) mg "whole_power" "whole_power" st_whole_power [] (He.ga K "whole_power") := ⟨fd_whole_power, F_whole_power, glo_at X G (fact_at c 36 (f := fGlo "whole_power"))⟩
  obtain ⟨fd__law_hand, F__law_hand⟩ := def_at c 14
  have S__law_hand : Stands (gm K) mg "_law_hand" "_law_hand" st__law_hand [] (He.ga K "_law_hand") := ⟨fd__law_hand, F__law_hand, glo_at X G (fact_at c 37 (f := fGlo "_law_hand"))⟩
  obtain ⟨fd__law_mixed, F__law_mixed⟩ := def_at c 15
  have S__law_mixed : Stands (gm K) mg "_law_mixed" "_law_mixed" st__law_mixed [] (He.ga K "_law_mixed") := ⟨fd__law_mixed, F__law_mixed, glo_at X G (fact_at c 38 (f := fGlo "_law_mixed"))⟩
  obtain ⟨fd__law_take, F__law_take⟩ := def_at c 16
  have S__law_take : Stands (gm K) mg "_law_take" "_law_take" st__law_take [] (He.ga K "_law_take") := ⟨fd__law_take, F__law_take, glo_at X G (fact_at c 39 (f := fGlo "_law_take"))⟩
  obtain ⟨fd__law_power, F__law_power⟩ := def_at c 17
  have S__law_power : Stands (gm K) mg "_law_power" "_law_power" st__law_power [] (He.ga K "_law_power") := ⟨fd__law_power, F__law_power, glo_at X G (fact_at c 40 (f := fGlo "_law_power"))⟩
  obtain ⟨fd__law_gcd, F__law_gcd⟩ := def_at c 18
  have S__law_gcd : Stands (gm K) mg "_law_gcd" "_law_gcd" st__law_gcd [] (He.ga K "_law_gcd") := ⟨fd__law_gcd, F__law_gcd, glo_at X G (fact_at c 41 (f := fGlo "_law_gcd"))⟩
  obtain ⟨fd__law_ratio, F__law_ratio⟩ := def_at c 19
  have S__law_ratio : Stands (gm K) mg "_law_ratio" "_law_ratio" st__law_ratio [] (He.ga K "_law_ratio") := ⟨fd__law_ratio, F__law_ratio, glo_at X G (fact_at c 42 (f := fGlo "_law_ratio"))⟩
  obtain ⟨fd__law_plus, F__law_plus⟩ := def_at c 20
  have S__law_plus : Stands (gm K) mg "_law_plus" "_law_plus" st__law_plus [] (He.ga K "_law_plus") := ⟨fd__law_plus, F__law_plus, glo_at X G (fact_at c 43 (f := fGlo "_law_plus"))⟩
  obtain ⟨fd__law_times, F__law_times⟩ := def_at c 21
  have S__law_times : Stands (gm K) mg "_law_times" "_law_times" st__law_times [] (He.ga K "_law_times") := ⟨fd__law_times, F__law_times, glo_at X G (fact_at c 44 (f := fGlo "_law_times"))⟩
  obtain ⟨fd__law_below, F__law_below⟩ := def_at c 22
  have S__law_below : Stands (gm K) mg "_law_below" "_law_below" st__law_below [] (He.ga K "_law_below") := ⟨fd__law_below, F__law_below, glo_at X G (fact_at c 45 (f := fGlo "_law_below"))⟩
  obtain ⟨fd__law_total, F__law_total⟩ := def_at c 23
  have S__law_total : Stands (gm K) mg "_law_total" "_law_total" st__law_total [] (He.ga K "_law_total") := ⟨fd__law_total, F__law_total, glo_at X G (fact_at c 46 (f := fGlo "_law_total"))⟩
  obtain ⟨fd__law_tops, F__law_tops⟩ := def_at c 24
  have S__law_tops : Stands (gm K) mg "_law_tops" "_law_tops" st__law_tops [] (He.ga K "_law_tops") := ⟨fd__law_tops, F__law_tops, glo_at X G (fact_at c 47 (f := fGlo "_law_tops"))⟩
  obtain ⟨fd__law_seq, F__law_seq⟩ := def_at c 25
  have S__law_seq : Stands (gm K) mg "_law_seq" "_law_seq" st__law_seq [] (He.ga K "_law_seq") := ⟨fd__law_seq, F__law_seq, glo_at X G (fact_at c 48 (f := fGlo "_law_seq"))⟩
  obtain ⟨fd__law_int, F__law_int⟩ := def_at c 26
  have S__law_int : Stands (gm K) mg "_law_int" "_law_int" st__law_int [] (He.ga K "_law_int") := ⟨fd__law_int, F__law_int, glo_at X G (fact_at c 49 (f := fGlo "_law_int"))⟩
  obtain ⟨fd__law_same, F__law_same⟩ := def_at c 27
  have S__law_same : Stands (gm K) mg "_law_same" "_law_same" st__law_same [] (He.ga K "_law_same") := ⟨fd__law_same, F__law_same, glo_at X G (fact_at c 50 (f := fGlo "_law_same"))⟩
  obtain ⟨fd__law_sized, F__law_sized⟩ := def_at c 28
  have S__law_sized : Stands (gm K) mg "_law_sized" "_law_sized" st__law_sized [] (He.ga K "_law_sized") := ⟨fd__law_sized, F__law_sized, glo_at X G (fact_at c 51 (f := fGlo "_law_sized"))⟩
  obtain ⟨fd__law_odd, F__law_odd⟩ := def_at c 29
  have S__law_odd : Stands (gm K) mg "_law_odd" "_law_odd" st__law_odd [] (He.ga K "_law_odd") := ⟨fd__law_odd, F__law_odd, glo_at X G (fact_at c 52 (f := fGlo "_law_odd"))⟩
  obtain ⟨fd__law_yes, F__law_yes⟩ := def_at c 30
  have S__law_yes : Stands (gm K) mg "_law_yes" "_law_yes" st__law_yes [] (He.ga K "_law_yes") := ⟨fd__law_yes, F__law_yes, glo_at X G (fact_at c 53 (f := fGlo "_law_yes"))⟩
  obtain ⟨fd__law_family, F__law_family⟩ := def_at c 31
  have S__law_family : Stands (gm K) mg "_law_family" "_law_family" st__law_family [] (He.ga K "_law_family") := ⟨fd__law_family, F__law_family, glo_at X G (fact_at c 54 (f := fGlo "_law_family"))⟩
  obtain ⟨fd__law_drawn, F__law_drawn⟩ := def_at c 32
  have S__law_drawn : Stands (gm K) mg "_law_drawn" "_law_drawn" st__law_drawn [] (He.ga K "_law_drawn") := ⟨fd__law_drawn, F__law_drawn, glo_at X G (fact_at c 55 (f := fGlo "_law_drawn"))⟩
  obtain ⟨fd__law_is_due, F__law_is_due⟩ := def_at c 33
  have S__law_is_due : Stands (gm K) mg "_law_is_due" "_law_is_due" st__law_is_due [] (He.ga K "_law_is_due") := ⟨fd__law_is_due, F__law_is_due, glo_at X G (fact_at c 56 (f := fGlo "_law_is_due"))⟩
  obtain ⟨fd__law_spoiled, F__law_spoiled⟩ := def_at c 34
  have S__law_spoiled : Stands (gm K) mg "_law_spoiled" "_law_spoiled" st__law_spoiled [] (He.ga K "_law_spoiled") := ⟨fd__law_spoiled, F__law_spoiled, glo_at X G (fact_at c 57 (f := fGlo "_law_spoiled"))⟩
  obtain ⟨fd__law_divided, F__law_divided⟩ := def_at c 35
  have S__law_divided : Stands (gm K) mg "_law_divided" "_law_divided" st__law_divided [] (He.ga K "_law_divided") := ⟨fd__law_divided, F__law_divided, glo_at X G (fact_at c 58 (f := fGlo "_law_divided"))⟩
  obtain ⟨fd__law_made, F__law_made⟩ := def_at c 36
  have S__law_made : Stands (gm K) mg "_law_made" "_law_made" st__law_made [] (He.ga K "_law_made") := ⟨fd__law_made, F__law_made, glo_at X G (fact_at c 59 (f := fGlo "_law_made"))⟩
  obtain ⟨fd__law_made_due, F__law_made_due⟩ := def_at c 37
  have S__law_made_due : Stands (gm K) mg "_law_made_due" "_law_made_due" st__law_made_due [] (He.ga K "_law_made_due") := ⟨fd__law_made_due, F__law_made_due, glo_at X G (fact_at c 60 (f := fGlo "_law_made_due"))⟩
  obtain ⟨fd__law_couples, F__law_couples⟩ := def_at c 38
  have S__law_couples : Stands (gm K) mg "_law_couples" "_law_couples" st__law_couples [] (He.ga K "_law_couples") := ⟨fd__law_couples, F__law_couples, glo_at X G (fact_at c 61 (f := fGlo "_law_couples"))⟩
  obtain ⟨fd__law_rows, F__law_rows⟩ := def_at c 39
  have S__law_rows : Stands (gm K) mg "_law_rows" "_law_rows" st__law_rows [] (He.ga K "_law_rows") := ⟨fd__law_rows, F__law_rows, glo_at X G (fact_at c 62 (f := fGlo "_law_rows"))⟩
  obtain ⟨fd__law_kinds, F__law_kinds⟩ := def_at c 40
  have S__law_kinds : Stands (gm K) mg "_law_kinds" "_law_kinds" st__law_kinds [] (He.ga K "_law_kinds") := ⟨fd__law_kinds, F__law_kinds, glo_at X G (fact_at c 63 (f := fGlo "_law_kinds"))⟩
  obtain ⟨fd__law_makings, F__law_makings⟩ := def_at c 41
  have S__law_makings : Stands (gm K) mg "_law_makings" "_law_makings" st__law_makings [] (He.ga K "_law_makings") := ⟨fd__law_makings, F__law_makings, glo_at X G (fact_at c 64 (f := fGlo "_law_makings"))⟩
  obtain ⟨fd__law_powers, F__law_powers⟩ := def_at c 42
  have S__law_powers : Stands (gm K) mg "_law_powers" "_law_powers" st__law_powers [] (He.ga K "_law_powers") := ⟨fd__law_powers, F__law_powers, glo_at X G (fact_at c 65 (f := fGlo "_law_powers"))⟩
  obtain ⟨fd_law, F_law⟩ := def_at c 43
  have S_law : Stands (gm K) mg "law" "law" st_law [] (He.ga K "law") := ⟨fd_law, F_law, glo_at X G (fact_at c 66 (f := fGlo "law"))⟩
  obtain ⟨fi_BadRatio, FI_BadRatio⟩ := def_at c 44
  have e := hfa.symm.trans (glo_at X G (fact_at c 66 (f := fGlo "law")))
  cases e
  refine ⟨fd_law, fun s v => FunD.bindsA (ps := ["script"]) F_law (fun _ _ _ _ _ _ us hl => match us, hl with | [_], _ => rfl) s [v] rfl, fun base _ _ => ?_⟩
  have E_BadRatio : OexC K (He.ga K "BadRatio") := fExc_ok (fact_at c 67 (f := fExc "BadRatio"))
  have x_BadRatio : ExcI P w (gm K).K mg base "BadRatio" ((gm K).cl 1) (spI1 (He.ga K "BadRatio") "what") := ini_at E_BadRatio (glo_at X G (fact_at c 0 (f := fGlo "BadRatio"))) (fact_at c 68 (f := fIni "BadRatio")) (ok_i1 (x := "__init__") (qual := "BadRatio.__init__") (st := si_BadRatio) FI_BadRatio sci_BadRatio E_BadRatio (He.eqO_ok (fact_at c 19 (f := fNo "BadRatio" "what"))) (fun cdv A outer s H E => (pss_one (ps_ost (pv 0) (pv 1))))) (FI_BadRatio.bindsN fun _ _ _ _ _ _ us hl => match us, hl with | [_, _], _ => rfl)
  have C_is_whole_1 : OkC P w (gm K).K mg base "is_whole" [.non, .non] 1 (spP (gm K) 3 f_is_whole) := okc_dfl 1 0 S_is_whole (fun fd F => d_is_whole F T) (by simp) rfl (fun _ _ _ _ _ _ _ us its hl hi => match us, hl, its, hi with | [_], _, [_, _], _ => ⟨_, rfl, rfl⟩)
  have C_is_whole_2 : OkC P w (gm K).K mg base "is_whole" [.non] 1 (spP (gm K) 3 f_is_whole) := okc_dfl 2 1 S_is_whole (fun fd F => d_is_whole F T) (by simp) rfl (fun _ _ _ _ _ _ _ us its hl hi => match us, hl, its, hi with | [_, _], _, [_, _], _ => ⟨_, rfl, rfl⟩)
  have C_is_whole_3 : OkC P w (gm K).K mg base "is_whole" [] 1 (spP (gm K) 3 f_is_whole) := okc_dfl 3 2 S_is_whole (fun fd F => d_is_whole F T) (by simp) rfl (fun _ _ _ _ _ _ _ us its hl hi => match us, hl, its, hi with | [_, _, _], _, [_, _], _ => ⟨_, rfl, rfl⟩)
  have C_is_sequence_1 : OkC P w (gm K).K mg base "is_sequence" [] 1 (spP (gm K) 1 f_is_sequence) := okc_all S_is_sequence (fun fd F => d_is_sequence F T) (fun _ _ _ _ _ _ us hl => match us, hl with | [_], _ => rfl)
  have C_is_ratio_1 : OkC P w (gm K).K mg base "is_ratio" [] 2 (spP (gm K) 1 f_is_ratio) := okc_all S_is_ratio (fun fd F => d_is_ratio F T C_is_whole_1 C_is_whole_2) (fun _ _ _ _ _ _ us hl => match us, hl with | [_], _ => rfl)
  have C_lowest_terms_2 : OkC P w (gm K).K mg base "lowest_terms" [] 1 (spP (gm K) 2 f_lowest_terms) := okc_all S_lowest_terms (fun fd F => d_lowest_terms F T) (fun _ _ _ _ _ _ us hl => match us, hl with | [_, _], _ => rfl)
  have C_make_ratio_1 : OkC P w (gm K).K mg base "make_ratio" [(.int 1)] 3 (spP (gm K) 2 f_make_ratio) := okc_dfl 1 0 S_make_ratio (fun fd F => d_make_ratio F T C_is_whole_1 C_lowest_terms_2 x_BadRatio) (by simp) rfl (fun _ _ _ _ _ _ _ us its hl hi => match us, hl, its, hi with | [_], _, [_], _ => ⟨_, rfl, rfl⟩)
  have C_make_ratio_2 : OkC P w (gm K).K mg base "make_ratio" [] 3 (spP (gm K) 2 f_make_ratio) := okc_dfl 2 1 S_make_ratio (fun fd F => d_make_ratio F T C_is_whole_1 C_lowest_terms_2 x_BadRatio) (by simp) rfl (fun _ _ _ _ _ _ _ us its hl hi => match us, hl, its, hi with | [_, _], _, [_], _ => ⟨_, rfl, rfl⟩)
  have C_add_ratios_2 : OkC P w (gm K).K mg base "add_ratios" [] 2 (spP (gm K) 2 f_add_ratios) := okc_all S_add_ratios (fun fd F => d_add_ratios F T C_lowest_terms_2) (fun _ _ _ _ _ _ us hl => match us, hl with | [_, _], _ => rfl)
  have C_subtract_ratios_2 : OkC P w (gm K).K mg base "subtract_ratios" [] 2 (spP (gm K) 2 f_subtract_ratios) := okc_all S_subtract_ratios (fun fd F => d_subtract_ratios F T C_lowest_terms_2) (fun _ _ _ _ _ _ us hl => match us, hl with | [_, _], _ => rfl)
  have C_multiply_ratios_2 : OkC P w (gm K).K mg base "multiply_ratios" [] 2 (spP (gm K) 2 f_multiply_ratios) := okc_all S_multiply_ratios (fun fd F => d_multiply_ratios F T C_lowest_terms_2) (fun _ _ _ _ _ _ us hl => match us, hl with | [_, _], _ => rfl)
  have C_divide_ratios_2 : OkC P w (gm K).K mg base "divide_ratios" [] 3 (spP (gm K) 2 f_divide_ratios) := okc_all S_divide_ratios (fun fd F => d_divide_ratios F T C_lowest_terms_2 x_BadRatio) (fun _ _ _ _ _ _ us hl => match us, hl with | [_, _], _ => rfl)
  have C_compare_ratios_2 : OkC P w (gm K).K mg base "compare_ratios" [] 1 (spP (gm K) 2 f_compare_ratios) := okc_all S_compare_ratios (fun fd F => d_compare_ratios F T) (fun _ _ _ _ _ _ us hl => match us, hl with | [_, _], _ => rfl)
  have C_sum_ratios_1 : OkC P w (gm K).K mg base "sum_ratios" [] 3 (spP (gm K) 1 f_sum_ratios) := okc_all S_sum_ratios (fun fd F => d_sum_ratios F T C_add_ratios_2) (fun _ _ _ _ _ _ us hl => match us, hl with | [_], _ => rfl)
  have C_floor_ratio_1 : OkC P w (gm K).K mg base "floor_ratio" [] 1 (spP (gm K) 1 f_floor_ratio) := okc_all S_floor_ratio (fun fd F => d_floor_ratio F T) (fun _ _ _ _ _ _ us hl => match us, hl with | [_], _ => rfl)
  have C_common_bottom_1 : OkC P w (gm K).K mg base "common_bottom" [] 1 (spP (gm K) 1 f_common_bottom) := okc_all S_common_bottom (fun fd F => d_common_bottom F T) (fun _ _ _ _ _ _ us hl => match us, hl with | [_], _ => rfl)
  have C_whole_power_2 : OkC P w (gm K).K mg base "whole_power" [] 1 (spP (gm K) 2 f_whole_power) := okc_all S_whole_power (fun fd F => d_whole_power F T) (fun _ _ _ _ _ _ us hl => match us, hl with | [_, _], _ => rfl)
  have C__law_hand_1 : OkC P w (gm K).K mg base "_law_hand" [] 1 (spN (gm K) 1 f__law_hand) := okc_all S__law_hand (fun fd F => d__law_hand F T) (fun _ _ _ _ _ _ us hl => match us, hl with | [_], _ => rfl)
  have C__law_mixed_2 : OkC P w (gm K).K mg base "_law_mixed" [] 1 (spP (gm K) 2 f__law_mixed) := okc_all S__law_mixed (fun fd F => d__law_mixed F T) (fun _ _ _ _ _ _ us hl => match us, hl with | [_, _], _ => rfl)
  have C__law_take_2 : OkC P w (gm K).K mg base "_law_take" [] 2 (spH (gm K) 2 f__law_take) := okc_all S__law_take (fun fd F => d__law_take F T C__law_mixed_2) (fun _ _ _ _ _ _ us hl => match us, hl with | [_, _], _ => rfl)
  have C__law_power_2 : OkC P w (gm K).K mg base "_law_power" [] 1 (spP (gm K) 2 f__law_power) := okc_all S__law_power (fun fd F => d__law_power F T) (fun _ _ _ _ _ _ us hl => match us, hl with | [_, _], _ => rfl)
  have C__law_gcd_2 : OkC P w (gm K).K mg base "_law_gcd" [] 1 (spP (gm K) 2 f__law_gcd) := okc_all S__law_gcd (fun fd F => d__law_gcd F T) (fun _ _ _ _ _ _ us hl => match us, hl with | [_, _], _ => rfl)
  have C__law_ratio_2 : OkC P w (gm K).K mg base "_law_ratio" [] 2 (spP (gm K) 2 f__law_ratio) := okc_all S__law_ratio (fun fd F => d__law_ratio F T C__law_gcd_2) (fun _ _ _ _ _ _ us hl => match us, hl with | [_, _], _ => rfl)
  have C__law_plus_2 : OkC P w (gm K).K mg base "_law_plus" [] 3 (spP (gm K) 2 f__law_plus) := okc_all S__law_plus (fun fd F => d__law_plus F T C__law_ratio_2) (fun _ _ _ _ _ _ us hl => match us, hl with | [_, _], _ => rfl)
  have C__law_times_2 : OkC P w (gm K).K mg base "_law_times" [] 3 (spP (gm K) 2 f__law_times) := okc_all S__law_times (fun fd F => d__law_times F T C__law_ratio_2) (fun _ _ _ _ _ _ us hl => match us, hl with | [_, _], _ => rfl)
  have C__law_below_2 : OkC P w (gm K).K mg base "_law_below" [] 1 (spP (gm K) 2 f__law_below) := okc_all S__law_below (fun fd F => d__law_below F T) (fun _ _ _ _ _ _ us hl => match us, hl with | [_, _], _ => rfl)
  have C__law_total_1 : OkC P w (gm K).K mg base "_law_total" [] 4 (spP (gm K) 1 f__law_total) := okc_all S__law_total (fun fd F => d__law_total F T C__law_plus_2) (fun _ _ _ _ _ _ us hl => match us, hl with | [_], _ => rfl)
  have C__law_tops_1 : OkC P w (gm K).K mg base "_law_tops" [] 2 (spP (gm K) 1 f__law_tops) := okc_all S__law_tops (fun fd F => d__law_tops F T C__law_gcd_2) (fun _ _ _ _ _ _ us hl => match us, hl with | [_], _ => rfl)
  have C__law_seq_1 : OkC P w (gm K).K mg base "_law_seq" [] 1 (spP (gm K) 1 f__law_seq) := okc_all S__law_seq (fun fd F => d__law_seq F T) (fun _ _ _ _ _ _ us hl => match us, hl with | [_], _ => rfl)
  have C__law_int_1 : OkC P w (gm K).K mg base "_law_int" [] 1 (spP (gm K) 1 f__law_int) := okc_all S__law_int (fun fd F => d__law_int F T) (fun _ _ _ _ _ _ us hl => match us, hl with | [_], _ => rfl)
  have C__law_same_2 : OkC P w (gm K).K mg base "_law_same" [] 2 (spP (gm K) 2 f__law_same) := okc_all S__law_same (fun fd F => d__law_same F T C__law_int_1) (fun _ _ _ _ _ _ us hl => match us, hl with | [_, _], _ => rfl)
  have C__law_sized_1 : OkC P w (gm K).K mg base "_law_sized" [] 3 (spH (gm K) 1 f__law_sized) := okc_all S__law_sized (fun fd F => d__law_sized F T C__law_take_2) (fun _ _ _ _ _ _ us hl => match us, hl with | [_], _ => rfl)
  have C__law_odd_1 : OkC P w (gm K).K mg base "_law_odd" [] 3 (spH (gm K) 1 f__law_odd) := okc_all S__law_odd (fun fd F => d__law_odd F T C__law_take_2) (fun _ _ _ _ _ _ us hl => match us, hl with | [_], _ => rfl)
  have C__law_yes_2 : OkC P w (gm K).K mg base "_law_yes" [] 1 (spP (gm K) 2 f__law_yes) := okc_all S__law_yes (fun fd F => d__law_yes F T) (fun _ _ _ _ _ _ us hl => match us, hl with | [_, _], _ => rfl)
  have C__law_family_1 : OkF P w (gm K).K mg base "_law_family" 1 (spFam (gm K).K [.ref ((gm K).cl 0), .type "ValueError"]) := okf_all S__law_family (fun fd F => d__law_family F T) (fun _ _ _ _ _ _ us hl => match us, hl with | [_], _ => rfl)
  have C__law_drawn_1 : OkC P w (gm K).K mg base "_law_drawn" [] 4 (spH (gm K) 1 f__law_drawn) := okc_all S__law_drawn (fun fd F => d__law_drawn F T C__law_take_2 C__law_ratio_2 C__law_sized_1) (fun _ _ _ _ _ _ us hl => match us, hl with | [_], _ => rfl)
  have C__law_is_due_1 : OkC P w (gm K).K mg base "_law_is_due" [] 2 (spP (gm K) 1 f__law_is_due) := okc_all S__law_is_due (fun fd F => d__law_is_due F T C__law_int_1 C__law_gcd_2) (fun _ _ _ _ _ _ us hl => match us, hl with | [_], _ => rfl)
  have C__law_spoiled_2 : OkC P w (gm K).K mg base "_law_spoiled" [] 4 (spH (gm K) 2 f__law_spoiled) := okc_all S__law_spoiled (fun fd F => d__law_spoiled F T C__law_take_2 C__law_odd_1) (fun _ _ _ _ _ _ us hl => match us, hl with | [_, _], _ => rfl)
  have C__law_divided_2 : OkC P w (gm K).K mg base "_law_divided" [] 4 (spP (gm K) 2 f__law_divided) := okc_all S__law_divided (fun fd F => d__law_divided F T C_divide_ratios_2 C__law_family_1) (fun _ _ _ _ _ _ us hl => match us, hl with | [_, _], _ => rfl)
  have C__law_made_3 : OkC P w (gm K).K mg base "_law_made" [] 4 (spP (gm K) 3 f__law_made) := okc_all S__law_made (fun fd F => d__law_made F T C_make_ratio_1 C_make_ratio_2 C__law_family_1) (fun _ _ _ _ _ _ us hl => match us, hl with | [_, _, _], _ => rfl)
  have C__law_made_due_2 : OkC P w (gm K).K mg base "_law_made_due" [] 3 (spP (gm K) 2 f__law_made_due) := okc_all S__law_made_due (fun fd F => d__law_made_due F T C__law_int_1 C__law_ratio_2) (fun _ _ _ _ _ _ us hl => match us, hl with | [_, _], _ => rfl)
  have C__law_couples_1 : OkC P w (gm K).K mg base "_law_couples" [] 5 (spH (gm K) 1 f__law_couples) := okc_all S__law_couples (fun fd F => d__law_couples F T C__law_drawn_1 C__law_take_2 C__law_same_2 C_add_ratios_2 C__law_plus_2 C_subtract_ratios_2 C_multiply_ratios_2 C__law_times_2 C__law_ratio_2 C__law_divided_2 C__law_below_2 C_compare_ratios_2 C__law_int_1 C_floor_ratio_1) (fun _ _ _ _ _ _ us hl => match us, hl with | [_], _ => rfl)
  have C__law_rows_1 : OkC P w (gm K).K mg base "_law_rows" [] 5 (spH (gm K) 1 f__law_rows) := okc_all S__law_rows (fun fd F => d__law_rows F T C__law_take_2 C__law_drawn_1 C_sum_ratios_1 C__law_same_2 C__law_total_1 C_common_bottom_1 C__law_int_1 C__law_tops_1) (fun _ _ _ _ _ _ us hl => match us, hl with | [_], _ => rfl)
  have C__law_kinds_1 : OkC P w (gm K).K mg base "_law_kinds" [] 5 (spH (gm K) 1 f__law_kinds) := okc_all S__law_kinds (fun fd F => d__law_kinds F T C__law_drawn_1 C__law_spoiled_2 C_is_ratio_1 C__law_yes_2 C__law_is_due_1 C_is_sequence_1 C__law_seq_1 C__law_sized_1 C__law_take_2 C_is_whole_3 C_is_whole_1 C__law_odd_1) (fun _ _ _ _ _ _ us hl => match us, hl with | [_], _ => rfl)
  have C__law_makings_1 : OkC P w (gm K).K mg base "_law_makings" [] 5 (spH (gm K) 1 f__law_makings) := okc_all S__law_makings (fun fd F => d__law_makings F T C__law_take_2 C__law_odd_1 C__law_sized_1 C__law_made_3 C__law_made_due_2 C__law_same_2) (fun _ _ _ _ _ _ us hl => match us, hl with | [_], _ => rfl)
  have C__law_powers_1 : OkC P w (gm K).K mg base "_law_powers" [] 4 (spH (gm K) 1 f__law_powers) := okc_all S__law_powers (fun fd F => d__law_powers F T C__law_sized_1 C__law_take_2 C_whole_power_2 C__law_int_1 C__law_power_2) (fun _ _ _ _ _ _ us hl => match us, hl with | [_], _ => rfl)
  exact d_law F_law T C__law_hand_1 C__law_same_2 C__law_couples_1 C__law_rows_1 C__law_kinds_1 C__law_makings_1 C__law_powers_1
end Law
open PySem PySem.W PySem.Calls PyProof.Rows
set_option maxRecDepth 100000 in
set_option maxHeartbeats 0 in
theorem PySem.Challenge.cw_fetchedwork_k00_whole_ratios_reckoned_holds : PySem.Challenge.rw_fetchedwork_k00_whole_ratios_reckoned.Holds := by
  refine Law.holds_of ?hc
  case hc =>
    refine L2.walk_ofE (l := PySem.Challenge.rw_fetchedwork_k00_whole_ratios_reckoned) (n := 63) (k := 6) (x := "script") (CX := L2.CX0) rfl (by decide) (by kernel_rfl) ⟨rfl, by decide, by decide⟩ ?F (fun _ _ _ _ z => z)
    intro w mg fa h Y G hmg0
    obtain ⟨K, KX, c⟩ := Y
    have hmg : mg ("law" : PySem.Str) = some (.ref fa) := by
      have e : (HandSHeadRun.topDef (OpenLaw.row PySem.Challenge.rw_fetchedwork_k00_whole_ratios_reckoned).prog 51).name = ("law" : PySem.Str) := by kernel_rfl
      rw [← e]
      exact hmg0
    obtain ⟨fd, hb, hF⟩ := Law.facts (P := (PySem.Challenge.rw_fetchedwork_k00_whole_ratios_reckoned).prog) (w := w) KX G hmg c
    exact ⟨K, fd, Py.shutS (Py.spP (Law.gm K) 1 Law.f_law), KX, hb, fun H a ns hl _ hS => Py.spP_law (Γ := Law.gm K) (m := Law.f_law) hS (Law.law_true ns hl), fun base h1 h2 => Py.shut (hF base h1 h2)⟩

